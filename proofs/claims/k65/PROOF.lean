import PyProof.Rows.All
import Wide.All
import OpenK.AllK
import Wide.FinOn
import HandS.ForMost
import HandS.ForExc
import HandS.Wide
import HandS.IsInst
import HandS.TupAny
import HandS.TupMul
import HandS.Deep
import HandS.WideBits
import HandS.Flow
import HandS.ExcCtx
import HandS.HotCalls
import HandS.ExcIs
import HandS.SortInts
import HandS.SortRule
import HandS.SetFor
import HandS.Strs
import HandS.More
import HandS.ExcValue
import HandS.TupLe
import HandS.Style
import HandS.Iter
import HandS.Zip
import HandS.Conv
import KE.GoesEnum
import PyProof.WalksMore
import PyProof.MinMaxWalk
import PyProof.SumWalkG
import PyProof.StrOps2
import KE.DataMinMax
import KE.KDictPairs
import HandS.SetKeys
import HandS.Text
import HandS.Flt
import KE.KDictList
import KE.DataFind
import KE.DatumOrd
import HandS.SortKw
import KE.GoesRaise
import HandS.TryOnly
import PySem.Challenge.RW_walkframe_k65_texts_of_addresses_and_wal
import KE.IntTextLaws
import PyProof.P3Eq
set_option Elab.async false
set_option linter.all false
set_option bootstrap.genMatcherCode false
set_option genSizeOf false
set_option maxRecDepth 100000
set_option maxHeartbeats 4000000
namespace Pu
open PySem PySem.Spec PyProof.Rows L2
/-- a new tuple is laid, and stays as it is -/
noncomputable def NT (vs : List V) (H : Hp) (Q : VK) : Prop := ∀ (p : Addr) (ob : Obj), H p = none → ob.dict = none → Q (.ref p) (upd H p (.frz ob (.tup vs)))
section
variable {X : Cx}
theorem NT.lay {pins : List (Addr × Obj)} {σ : L2.St} {H : Hp} {s : Shared} {vs : List V} {us : List Value} {Q : VK} {tk : Tok} (J : Inv X pins σ H s) (r : Vals vs us) (z : vs.length ≤ sizeLine) (q : NT vs H Q) :
    EP X pins σ Q (.ref s.heap.objs.size) { s with heap := s.heap.push { cls := .type "tuple", data := .seq us.toArray }, toks := tk } :=
  ⟨.ref s.heap.objs.size, _, J.laid (t' := tk) (o := .frz { cls := .type "tuple", data := .seq us.toArray } (.tup vs)) (fun _ _ e => Heap.get?_push_of_some _ e) (Nat.le_refl _) ⟨Heap.get?_push_size _ rfl, z, us, r, IsTup.new _ _⟩, rfl, q _ _ (J.hok.fresh (Nat.le_refl _)) rfl⟩
noncomputable def tTupF (t : TA) : TE := fun σ H Q => t σ H fun vs H1 => vs.length ≤ sizeLine ∧ NT vs H1 Q
theorem pe_tupF {es : List Expr} {t : TA} {k : Nat} {pos : Pos} (h : PA X es t) : PE X (.Tuple es k pos) (tTupF t) := ⟨fun pins s σ H Q J h0 =>
  wpAny_Tuple_spliced (thn (h.run pos pins s σ H _ J h0) fun us s1 ⟨vs, H1, J1, r, z, q⟩ => ⟨by rw [← r.length]; exact z, NT.lay (tk := s1.toks) J1 r z q⟩)⟩
theorem cr_tupleF : CallR X (.type "tuple") (fun xs H Q => ∃ p ys, xs = [.ref p] ∧ ((SqL X.K H p ys ∧ NT ys H Q) ∨ (SqT X.K H p ys ∧ Q (.ref p) H))) := by
  intro pins s σ H xs ws Q J r0 h
  obtain ⟨p, ys, rfl, h⟩ := h
  obtain ⟨wv, rfl, rw0⟩ := vals1 r0
  cases rw0
  rcases h with ⟨hl, q⟩ | ⟨ht, q⟩
  · obtain ⟨its, ri, pl, z⟩ := J.list hl
    have hlen := ri.length
    refine call_tuple_list pl.isList (fun h1 kp => ?_) (by simp only [List.size_toArray]; omega)
    have J1 : Inv X pins σ H { s with heap := h1 } := J.kept (t' := s.toks) kp
    exact NT.lay (tk := s.toks) J1 ri z q
  · obtain ⟨its, ri, pl, _⟩ := J.tuple ht
    exact call_tuple_same pl ⟨.ref p, H, J, rfl, q⟩
/-- t + u -/
noncomputable def rCatF (K : PySem.W.Frag) : R2 := fun x y H Q => ∃ a b xs ys, x = .ref a ∧ y = .ref b ∧ SqT K H a xs ∧ SqT K H b ys ∧ xs.length + ys.length ≤ sizeLine ∧ (xs = [] → Q (.ref b) H) ∧ (xs ≠ [] → ys = [] → Q (.ref a) H) ∧ (xs ≠ [] → ys ≠ [] → NT (xs ++ ys) H Q)
theorem op_catF : OpR X (binaryOp .Add) (rCatF X.K) := by
  intro pins s σ H x y v u Q J rx ry h
  obtain ⟨a, b, xs, ys, rfl, rfl, ha, hb, z, q0, q1, q2⟩ := h
  cases rx
  cases ry
  obtain ⟨its, ri, pa', _⟩ := J.tuple ha
  obtain ⟨jts, rj, pb', _⟩ := J.tuple hb
  have nx := ri.nil_iff
  have ny := rj.nil_iff
  by_cases hx : xs = []
  · subst hx
    have e := nx.mpr rfl
    subst e
    exact cat_tup0 pa' pb' ⟨.ref b, H, J, rfl, q0 rfl⟩
  · refine HT.cat_tup pa' pb' (fun e => hx (nx.mp e)) (fun e => ⟨.ref a, H, J, rfl, q1 hx (ny.mp e)⟩) (fun e => ?_) (by rw [← ri.length, ← rj.length]; exact z)
    exact NT.lay (tk := s.toks) J (ri.append rj) (by rw [List.length_append]; exact z) (q2 hx fun w => e (ny.mpr w))
/-- t[lo:hi] -/
noncomputable def rSlF (K : PySem.W.Frag) : V → Option Int → Option Int → Hp → VK → Prop := fun x lo hi H Q => ∃ a xs, x = .ref a ∧ SqT K H a xs ∧
  (HT.sIx xs.length 0 lo = 0 ∧ HT.sIx xs.length xs.length hi = xs.length → Q (.ref a) H) ∧ (¬ (HT.sIx xs.length 0 lo = 0 ∧ HT.sIx xs.length xs.length hi = xs.length) → NT (cutV xs lo hi) H Q)
theorem sl_tupF : SlR X (rSlF X.K) := by
  intro pins s σ H x v vl vu lo hi sl Q J rx hs pl pu h
  obtain ⟨a, xs, rfl, hx, q1, q2⟩ := h
  cases rx
  obtain ⟨its, ri, ht, z⟩ := J.tuple hx
  have hn : its.toArray.size = xs.length := by rw [List.size_toArray, ri.length]
  refine ⟨"tuple", _, PyProof.Rows.slot_tuple_getitem.lookup, ht.typeIs, ?_⟩
  by_cases hw : HT.sIx xs.length 0 lo = 0 ∧ HT.sIx xs.length xs.length hi = xs.length
  · exact getItem_tuple_whole ht hs pl pu (by rw [hn]; exact hw) ⟨.ref a, H, J, rfl, q1 hw⟩
  · refine HT.getItem_tuple_cut ht hs pl pu (by rw [hn]; exact hw) ?_ (by rw [hn]; exact z)
    rw [hn]
    exact NT.lay (tk := s.toks) J ((ri.drop (HT.sIx xs.length 0 lo)).take (HT.sIx xs.length xs.length hi - HT.sIx xs.length 0 lo)) (Nat.le_trans (cutV_length xs lo hi) z) (q2 hw)
end
end Pu
set_option Elab.async false
set_option linter.all false
set_option maxRecDepth 100000
namespace Pu
open PySem PySem.Spec PyProof.Rows L2
/-- a value: data by value; what is changed in place by its number in the store -/
inductive D where
  | non | bl (b : Bool) | int (i : Int) | str (x : Str) | tup (xs : List D) | tpi (xs : List D) | lst (xs : List D) | fls (xs : List D) | dct (kvs : List (Key × D)) | ref (n : Nat)
/-- an object of the store -/
inductive DO where
  | lst (xs : List D) | dct (kvs : List (Key × D)) | ins (c : Str) (fs : List (Str × D))
noncomputable abbrev En := List (Option D)
noncomputable abbrev Sto := List DO
inductive Res (α : Type) where
  | ok (a : α) (S : Sto) | exc (c : Str) (S : Sto) | bad
inductive SRes where
  | next (e : En) (S : Sto) | ret (d : D) (S : Sto) | brk (e : En) (S : Sto) | cnt (e : En) (S : Sto) | exc (c : Str) (e : En) (S : Sto) | bad
noncomputable abbrev Ev (α : Type) := En → Sto → Res α
noncomputable abbrev Stm := En → Sto → SRes
noncomputable def Res.bind {α β : Type} (r : Res α) (k : α → Sto → Res β) : Res β := match r with
  | .ok a S => k a S
  | .exc c S => .exc c S
  | .bad => .bad
@[simp] theorem Res.bind_ok {α β : Type} {a : α} {S : Sto} {k : α → Sto → Res β} : (Res.ok a S).bind k = k a S := id rfl
@[simp] theorem Res.bind_exc {α β : Type} {c : Str} {S : Sto} {k : α → Sto → Res β} : (Res.exc c S).bind k = .exc c S := id rfl
@[simp] theorem Res.bind_bad {α β : Type} {k : α → Sto → Res β} : (Res.bad).bind k = .bad := id rfl
/-- a value, or nothing is promised -/
noncomputable def opt {α : Type} (o : Option α) (S : Sto) : Res α := match o with
  | some a => .ok a S
  | none => .bad
@[simp] theorem opt_some {α : Type} {a : α} {S : Sto} : opt (some a) S = .ok a S := id rfl
@[simp] theorem opt_none {α : Type} {S : Sto} : opt (none : Option α) S = .bad := id rfl
/-- the addresses of the store's objects, by number; all addresses that no value may have by its data (those and the reserved ones) -/
structure AM where
  ad : List Addr
  no : List Addr
  sub : ∀ a, a ∈ ad → a ∈ no
noncomputable def TupAt (K : PySem.W.Frag) (am : AM) (H : Hp) (a : Addr) (vs : List V) : Prop :=
  (∃ o : Obj, H a = some (.frz o (.tup vs)) ∧ o.dict = none ∧ a ∉ am.no) ∨ ∃ (o : Obj) (its : Array Value) (n : Nat), K.lookup a = some o ∧ o.cls = .type "tuple" ∧ o.dict = none ∧ o.data = .seq its n ∧ its.size ≤ sizeLine ∧ Vals vs its.toList
theorem TupAt.seq {K : PySem.W.Frag} {am : AM} {H : Hp} {a : Addr} {vs : List V} (h : TupAt K am H a vs) : SqT K H a vs := by
  rcases h with ⟨o, h, _⟩ | ⟨o, its, n, h1, h2, _, h3⟩
  · exact .inl (.inr ⟨o, h⟩)
  · exact .inr ⟨o, its, n, h1, h2, h3⟩
/-- the item of an iterator: read at once -/
noncomputable def TpiAt (am : AM) (H : Hp) (a : Addr) (vs : List V) : Prop := Rd H a (.tup vs) ∧ a ∉ am.no
noncomputable def LstAt (K : PySem.W.Frag) (am : AM) (H : Hp) (a : Addr) (vs : List V) : Prop :=
  (Rd H a (.lst vs) ∧ a ∉ am.no) ∨ ∃ (o : Obj) (its : Array Value) (n : Nat), K.lookup a = some o ∧ o.cls = .type "list" ∧ o.dict = none ∧ o.data = .seq its n ∧ its.size ≤ sizeLine ∧ Vals vs its.toList
theorem LstAt.seq {K : PySem.W.Frag} {am : AM} {H : Hp} {a : Addr} {vs : List V} (h : LstAt K am H a vs) : SqL K H a vs := by
  rcases h with ⟨h, _⟩ | h
  · exact .inl h
  · exact .inr h
mutual
inductive VR (K : PySem.W.Frag) (am : AM) (H : Hp) : D → V → Prop
  | non : VR K am H .non .non
  | bl (b : Bool) : VR K am H (.bl b) (.bl b)
  | int (i : Int) : VR K am H (.int i) (.int i)
  | str (x : Str) : VR K am H (.str x) (.str x)
  | tup {a : Addr} {vs : List V} {ds : List D} : TupAt K am H a vs → VRs K am H ds vs → VR K am H (.tup ds) (.ref a)
  | tpi {a : Addr} {vs : List V} {ds : List D} : TpiAt am H a vs → VRs K am H ds vs → VR K am H (.tpi ds) (.ref a)
  | lst {a : Addr} {vs : List V} {ds : List D} : H a = some (.lst vs) → a ∉ am.no → VRs K am H ds vs → VR K am H (.lst ds) (.ref a)
  | fls {a : Addr} {vs : List V} {ds : List D} : LstAt K am H a vs → VRs K am H ds vs → VR K am H (.fls ds) (.ref a)
  | dct {a : Addr} {vs : List (Key × V)} {ds : List (Key × D)} : H a = some (.dK vs) → a ∉ am.no → VRk K am H ds vs → VR K am H (.dct ds) (.ref a)
  | ref {n : Nat} {a : Addr} : am.ad[n]? = some a → VR K am H (.ref n) (.ref a)
inductive VRs (K : PySem.W.Frag) (am : AM) (H : Hp) : List D → List V → Prop
  | nil : VRs K am H [] []
  | cons {d : D} {v : V} {ds : List D} {vs : List V} : VR K am H d v → VRs K am H ds vs → VRs K am H (d :: ds) (v :: vs)
inductive VRk (K : PySem.W.Frag) (am : AM) (H : Hp) : List (Key × D) → List (Key × V) → Prop
  | nil : VRk K am H [] []
  | cons {k : Key} {d : D} {v : V} {ds : List (Key × D)} {vs : List (Key × V)} : VR K am H d v → VRk K am H ds vs → VRk K am H ((k, d) :: ds) ((k, v) :: vs)
end
/-- what keeps values as they are -/
structure Ext (am am' : AM) (H H' : Hp) : Prop where
  ad : ∀ (n : Nat) (a : Addr), am.ad[n]? = some a → am'.ad[n]? = some a
  keep : ∀ (b : Addr) (o : HO), H b = some o → b ∉ am.no → H' b = some o ∧ b ∉ am'.no
/-- what a step does to the heap: nothing to what is not in the store; new ones of the store are new -/
structure Grow (am am' : AM) (H H' : Hp) : Prop where
  pre : ∃ r, am'.ad = am.ad ++ r
  fresh : ∀ b, b ∈ am'.ad → b ∉ am.ad → H b = none
  freshNo : ∀ b, b ∈ am'.no → b ∉ am.no → H b = none
  noK : ∀ b, b ∈ am.no → b ∈ am'.no
  keep : ∀ b o, H b = some o → b ∉ am.ad → H' b = some o
theorem Grow.get {am am' : AM} {H H' : Hp} (g : Grow am am' H H') {n : Nat} {a : Addr} (h : am.ad[n]? = some a) : am'.ad[n]? = some a := by
  obtain ⟨r, e⟩ := g.pre
  rw [e]
  have hl := (List.getElem?_eq_some_iff.mp h).1
  rw [List.getElem?_append_left hl]
  exact h
theorem Grow.ext {am am' : AM} {H H' : Hp} (g : Grow am am' H H') : Ext am am' H H' := ⟨fun n a h => g.get h, fun b o h n => ⟨g.keep b o h fun z => n (am.sub b z), fun z => by
  have q := g.freshNo b z n
  rw [h] at q; cases q⟩⟩
theorem Grow.refl {am : AM} {H : Hp} : Grow am am H H := ⟨⟨[], by simp⟩, fun _ h h' => absurd h h', fun _ h h' => absurd h h', fun _ h => h, fun _ _ h _ => h⟩
theorem Grow.trans {a b c : AM} {H H1 H2 : Hp} (g : Grow a b H H1) (g' : Grow b c H1 H2) : Grow a c H H2 := by
  obtain ⟨r, e⟩ := g.pre
  obtain ⟨r', e'⟩ := g'.pre
  have ina : ∀ x o, H x = some o → x ∉ a.ad → x ∉ b.ad := fun x o h n hb => by
    have z := g.fresh x hb n
    rw [h] at z; cases z
  refine ⟨⟨r ++ r', by rw [e', e, List.append_assoc]⟩, fun x hx n => ?_, fun x hx n => ?_, fun x hx => g'.noK x (g.noK x hx), fun x o h n => g'.keep x o (g.keep x o h n) (ina x o h n)⟩
  · cases q : H x with
    | none => rfl
    | some o =>
      have h1 := g.keep x o q n
      have h2 := g'.fresh x hx (ina x o q n)
      rw [h1] at h2; cases h2
  · cases q : H x with
    | none => rfl
    | some o =>
      have n1 : x ∉ a.ad := fun z => n (a.sub x z)
      have h1 := g.keep x o q n1
      have nb : x ∉ b.no := fun z => by
        have q2 := g.freshNo x z n
        rw [q] at q2; cases q2
      have h2 := g'.freshNo x hx nb
      rw [h1] at h2; cases h2
theorem Ext.rd {am am' : AM} {H H' : Hp} (g : Ext am am' H H') {b : Addr} {u : HO} (h : Rd H b u) (n : b ∉ am.no) : Rd H' b u ∧ b ∉ am'.no := by
  rcases h with h | ⟨o, h⟩
  · exact ⟨.inl (g.keep _ _ h n).1, (g.keep _ _ h n).2⟩
  · exact ⟨.inr ⟨o, (g.keep _ _ h n).1⟩, (g.keep _ _ h n).2⟩
theorem TupAt.ext {K : PySem.W.Frag} {am am' : AM} {H H' : Hp} (g : Ext am am' H H') {a : Addr} {vs : List V} (h : TupAt K am H a vs) : TupAt K am' H' a vs := by
  rcases h with ⟨o, h, d, n⟩ | h
  · exact .inl ⟨o, (g.keep _ _ h n).1, d, (g.keep _ _ h n).2⟩
  · exact .inr h
theorem TpiAt.ext {am am' : AM} {H H' : Hp} (g : Ext am am' H H') {a : Addr} {vs : List V} (h : TpiAt am H a vs) : TpiAt am' H' a vs := g.rd h.1 h.2
theorem LstAt.ext {K : PySem.W.Frag} {am am' : AM} {H H' : Hp} (g : Ext am am' H H') {a : Addr} {vs : List V} (h : LstAt K am H a vs) : LstAt K am' H' a vs := by
  rcases h with ⟨h, n⟩ | h
  · exact .inl (g.rd h n)
  · exact .inr h
section
variable {K : PySem.W.Frag} {am am' : AM} {H H' : Hp}
mutual
theorem VR.ext (g : Ext am am' H H') : ∀ {d : D} {v : V}, VR K am H d v → VR K am' H' d v
  | _, _, .non => .non
  | _, _, .bl b => .bl b
  | _, _, .int i => .int i
  | _, _, .str x => .str x
  | _, _, .tup h hs => .tup (h.ext g) (VRs.ext g hs)
  | _, _, .tpi h hs => .tpi (h.ext g) (VRs.ext g hs)
  | _, _, .lst h n hs => .lst (g.keep _ _ h n).1 (g.keep _ _ h n).2 (VRs.ext g hs)
  | _, _, .fls h hs => .fls (h.ext g) (VRs.ext g hs)
  | _, _, .dct h n hs => .dct (g.keep _ _ h n).1 (g.keep _ _ h n).2 (VRk.ext g hs)
  | _, _, .ref h => .ref (g.ad _ _ h)
theorem VRs.ext (g : Ext am am' H H') : ∀ {ds : List D} {vs : List V}, VRs K am H ds vs → VRs K am' H' ds vs
  | _, _, .nil => .nil
  | _, _, .cons h t => .cons (VR.ext g h) (VRs.ext g t)
theorem VRk.ext (g : Ext am am' H H') : ∀ {ds : List (Key × D)} {vs : List (Key × V)}, VRk K am H ds vs → VRk K am' H' ds vs
  | _, _, .nil => .nil
  | _, _, .cons h t => .cons (VR.ext g h) (VRk.ext g t)
end
theorem VR.mono (g : Grow am am' H H') {d : D} {v : V} (h : VR K am H d v) : VR K am' H' d v := h.ext g.ext
theorem VRs.mono (g : Grow am am' H H') {ds : List D} {vs : List V} (h : VRs K am H ds vs) : VRs K am' H' ds vs := h.ext g.ext
theorem VRk.mono (g : Grow am am' H H') {ds : List (Key × D)} {vs : List (Key × V)} (h : VRk K am H ds vs) : VRk K am' H' ds vs := h.ext g.ext
end
noncomputable abbrev VRf (K : PySem.W.Frag) (am : AM) (H : Hp) : List (Str × D) → List (Str × V) → Prop := Paired fun p q => p.1 = q.1 ∧ VR K am H p.2 q.2
noncomputable def OR (K : PySem.W.Frag) (cl : Str → Addr) (am : AM) (H : Hp) (a : Addr) : DO → Prop
  | .lst ds => ∃ vs, H a = some (.lst vs) ∧ VRs K am H ds vs
  | .dct ds => ∃ vs, H a = some (.dK vs) ∧ VRk K am H ds vs
  | .ins c fs => ∃ dx vs, H a = some (.ins (cl c) dx vs) ∧ VRf K am H fs vs
structure RelS (K : PySem.W.Frag) (cl : Str → Addr) (am : AM) (S : Sto) (H : Hp) : Prop where
  len : am.ad.length = S.length
  nd : am.ad.Nodup
  ob : ∀ (k : Nat) (o : DO) (a : Addr), S[k]? = some o → am.ad[k]? = some a → OR K cl am H a o
  there : ∀ a, a ∈ am.no → ∃ o, H a = some o
/-- slots -/
structure RelE (K : PySem.W.Frag) (am : AM) (H : Hp) (e : En) (σ : L2.St) : Prop where
  len : e.length = σ.length
  get : ∀ (i : Nat) (d : D), e[i]? = some (some d) → ∃ v, σ[i]? = some (some v) ∧ VR K am H d v
/-- slots forgotten -/
noncomputable def wipeE (e : En) : List Nat → En
  | [] => e
  | v :: vs => (wipeE e vs).set v none
section
variable {K : PySem.W.Frag} {cl : Str → Addr} {am am' : AM} {H H' : Hp} {S S' : Sto}
theorem RelE.ext (g : Ext am am' H H') {e : En} {σ : L2.St} (r : RelE K am H e σ) : RelE K am' H' e σ := ⟨r.len, fun i d h => by
  obtain ⟨v, h1, h2⟩ := r.get i d h
  exact ⟨v, h1, h2.ext g⟩⟩
theorem RelE.mono (g : Grow am am' H H') {e : En} {σ : L2.St} (r : RelE K am H e σ) : RelE K am' H' e σ := r.ext g.ext
theorem RelE.set {e : En} {σ : L2.St} (r : RelE K am H e σ) (i : Nat) {d : D} {v : V} (h : VR K am H d v) : RelE K am H (e.set i (some d)) (σ.set i (some v)) := ⟨by rw [List.length_set, List.length_set]; exact r.len, fun j x hx => by
  by_cases hj : i = j
  · subst hj
    rw [List.getElem?_set_self'] at hx ⊢
    cases q : e[i]? with
    | none => rw [q] at hx; cases hx
    | some z =>
      rw [q] at hx
      have e1 : d = x := Option.some.inj (Option.some.inj hx)
      subst e1
      have hi := (List.getElem?_eq_some_iff.mp q).1
      rw [r.len] at hi
      rw [List.getElem?_eq_getElem hi]
      exact ⟨v, rfl, h⟩
  · rw [List.getElem?_set_ne hj] at hx ⊢
    exact r.get j x hx⟩
theorem RelE.wipe1 {e : En} {σ : L2.St} (r : RelE K am H e σ) (i : Nat) : RelE K am H (e.set i none) σ := ⟨by rw [List.length_set]; exact r.len, fun j x hx => by
  by_cases hj : i = j
  · subst hj
    rw [List.getElem?_set_self'] at hx
    cases q : e[i]? with
    | none => rw [q] at hx; cases hx
    | some z =>
      rw [q] at hx
      cases Option.some.inj hx
  · rw [List.getElem?_set_ne hj] at hx
    exact r.get j x hx⟩
theorem RelE.forget {e : En} {σ : L2.St} (r : RelE K am H e σ) : ∀ vs, RelE K am H (wipeE e vs) σ
  | [] => r
  | v :: vs => (RelE.forget r vs).wipe1 v
theorem RelE.wipe {e : En} {σ : L2.St} (r : RelE K am H e σ) : ∀ vs, RelE K am H (wipeE e vs) (L2.wipe σ vs)
  | [] => r
  | v :: vs => by
    have q := RelE.wipe r vs
    refine ⟨?_, fun j x hx => ?_⟩
    · show ((wipeE e vs).set v none).length = ((L2.wipe σ vs).set v none).length
      rw [List.length_set, List.length_set]
      exact q.len
    · have hx' : ((wipeE e vs).set v none)[j]? = some (some x) := hx
      show ∃ y, ((L2.wipe σ vs).set v none)[j]? = some (some y) ∧ _
      by_cases hj : v = j
      · subst hj
        rw [List.getElem?_set_self'] at hx'
        cases q : (wipeE e vs)[v]? with
        | none => rw [q] at hx'; cases hx'
        | some z =>
          rw [q] at hx'
          cases Option.some.inj hx'
      · rw [List.getElem?_set_ne hj] at hx' ⊢
        exact q.get j x hx'
theorem RelS.has {k : Nat} {o : DO} (r : RelS K cl am S H) (h : S[k]? = some o) : ∃ a, am.ad[k]? = some a ∧ OR K cl am H a o := by
  have hk := (List.getElem?_eq_some_iff.mp h).1
  have hk' : k < am.ad.length := by rw [r.len]; exact hk
  exact ⟨am.ad[k], List.getElem?_eq_getElem hk', r.ob k o _ h (List.getElem?_eq_getElem hk')⟩
theorem OR.ext (g : Ext am am' H H') {a : Addr} {o : DO} (h : OR K cl am H a o) (k : ∀ u, H a = some u → H' a = some u) : OR K cl am' H' a o := by
  cases o with
  | lst ds => obtain ⟨vs, h1, h2⟩ := h; exact ⟨vs, k _ h1, h2.ext g⟩
  | dct ds => obtain ⟨vs, h1, h2⟩ := h; exact ⟨vs, k _ h1, h2.ext g⟩
  | ins c fs => obtain ⟨dx, vs, h1, h2⟩ := h; exact ⟨dx, vs, k _ h1, Paired.mapP h2 fun p q z => ⟨z.1, z.2.ext g⟩⟩
theorem OR.mono (g : Grow am am' H H') {a : Addr} {o : DO} (h : OR K cl am H a o) (k : ∀ u, H a = some u → H' a = some u) : OR K cl am' H' a o := h.ext g.ext k
theorem RelS.new (r : RelS K cl am S H) {p : Addr} (h : H p = none) : p ∉ am.no := fun hp => by
  obtain ⟨o, e⟩ := r.there p hp
  rw [h] at e; cases e
/-- a new object that is not of the store -/
theorem Grow.upd {o : HO} {p : Addr} (h : H p = none) : Grow am am H (upd H p o) := ⟨⟨[], by simp⟩, fun _ h h' => absurd h h', fun _ h h' => absurd h h', fun _ h => h, fun b u hb _ => by
  rw [upd_ne (ne_of_none hb h)]
  exact hb⟩
theorem RelS.upd (r : RelS K cl am S H) {o : HO} {p : Addr} (h : H p = none) : RelS K cl am S (upd H p o) :=
  ⟨r.len, r.nd, fun k u a h1 h2 => (r.ob k u a h1 h2).mono (Grow.upd h) fun w hw => by rw [upd_ne (ne_of_none hw h)]; exact hw, fun a ha => by
    obtain ⟨u, e⟩ := r.there a ha
    exact ⟨u, by rw [upd_ne (ne_of_none e h)]; exact e⟩⟩
/-- an object of the store is changed -/
theorem Grow.put {a : Addr} {o : HO} (h : a ∈ am.ad) : Grow am am H (L2.upd H a o) := ⟨⟨[], by simp⟩, fun _ h h' => absurd h h', fun _ h h' => absurd h h', fun _ h => h, fun b u hb nb => by
  rw [upd_ne (show b ≠ a from fun e => nb (by rw [e]; exact h))]
  exact hb⟩
theorem RelS.put {k : Nat} {a : Addr} {o : DO} {u : HO} (r : RelS K cl am S H) (hk : am.ad[k]? = some a) (h : OR K cl am (L2.upd H a u) a o) : RelS K cl am (S.set k o) (L2.upd H a u) := by
  have hm : a ∈ am.ad := List.mem_of_getElem? hk
  refine ⟨by rw [List.length_set]; exact r.len, r.nd, fun j w b h1 h2 => ?_, fun b hb => ?_⟩
  · by_cases hj : k = j
    · subst hj
      rw [hk] at h2
      cases h2
      have hl : k < S.length := by rw [← r.len]; exact (List.getElem?_eq_some_iff.mp hk).1
      rw [List.getElem?_set_self hl] at h1
      cases h1
      exact h
    · rw [List.getElem?_set_ne hj] at h1
      refine (r.ob j w b h1 h2).mono (Grow.put hm) fun z hz => ?_
      rw [upd_ne]
      · exact hz
      · intro e
        subst e
        exact hj (nd_ix r.nd hk h2)
  · by_cases e : b = a
    · exact ⟨u, by rw [e]; exact upd_same⟩
    · obtain ⟨w, q⟩ := r.there b hb
      exact ⟨w, by rw [upd_ne e]; exact q⟩
/-- an address is kept for a new object -/
noncomputable def AM.resv (am : AM) (a : Addr) : AM := ⟨am.ad, a :: am.no, fun b hb => List.mem_cons_of_mem _ (am.sub b hb)⟩
/-- .. it comes into the store -/
noncomputable def AM.push (am : AM) (a : Addr) (h : a ∈ am.no) : AM := ⟨am.ad ++ [a], am.no, fun b hb => by
  rcases List.mem_append.mp hb with hb | hb
  · exact am.sub b hb
  · have e : b = a := by simpa using hb
    rw [e]
    exact h⟩
/-- .. it does not -/
noncomputable def AM.free (am : AM) (a : Addr) (h : a ∉ am.ad) : AM := ⟨am.ad, am.no.filter fun b => decide (b ≠ a), fun b hb => List.mem_filter.mpr ⟨am.sub b hb, decide_eq_true fun e => h (by rw [← e]; exact hb)⟩⟩
theorem AM.free_not {a : Addr} (h : a ∉ am.ad) : a ∉ (am.free a h).no := fun z => (of_decide_eq_true (List.mem_filter.mp z).2) rfl
theorem Grow.resv {a : Addr} {o : HO} (h : H a = none) : Grow am (am.resv a) H (L2.upd H a o) := ⟨⟨[], by simp [AM.resv]⟩, fun _ h h' => absurd h h', fun b hb nb => by
  rcases List.mem_cons.mp hb with e | hb
  · rw [e]; exact h
  · exact absurd hb nb, fun b hb => List.mem_cons_of_mem _ hb, fun b u hb _ => by rw [upd_ne (ne_of_none hb h)]; exact hb⟩
theorem RelS.resv (r : RelS K cl am S H) {a : Addr} {o : HO} (h : H a = none) : RelS K cl (am.resv a) S (L2.upd H a o) :=
  ⟨r.len, r.nd, fun k u b h1 h2 => (r.ob k u b h1 h2).mono (Grow.resv h) fun w hw => by rw [upd_ne (ne_of_none hw h)]; exact hw, fun b hb => by
    rcases List.mem_cons.mp hb with e | hb
    · exact ⟨o, by rw [e]; exact upd_same⟩
    · obtain ⟨u, e⟩ := r.there b hb
      exact ⟨u, by rw [upd_ne (ne_of_none e h)]; exact e⟩⟩
theorem Ext.push {a : Addr} (h : a ∈ am.no) : Ext am (am.push a h) H H := ⟨fun n b hb => by
  show (am.ad ++ [a])[n]? = some b
  rw [List.getElem?_append_left (List.getElem?_eq_some_iff.mp hb).1]
  exact hb, fun b o hb nb => ⟨hb, nb⟩⟩
theorem Ext.free {a : Addr} (h : a ∉ am.ad) : Ext am (am.free a h) H H := ⟨fun n b hb => hb, fun b o hb nb => ⟨hb, fun z => nb (List.mem_filter.mp z).1⟩⟩
theorem Grow.push {a : Addr} (g : Grow am am' H H') (h : a ∈ am'.no) (n : H a = none) : Grow am (am'.push a h) H H' := by
  obtain ⟨r, e⟩ := g.pre
  refine ⟨⟨r ++ [a], by show am'.ad ++ [a] = _; rw [e, List.append_assoc]⟩, fun b hb nb => ?_, g.freshNo, g.noK, g.keep⟩
  rcases List.mem_append.mp hb with hb | hb
  · exact g.fresh b hb nb
  · have e : b = a := by simpa using hb
    rw [e]
    exact n
theorem Grow.free {a : Addr} (g : Grow am am' H H') (h : a ∉ am'.ad) (n : a ∉ am.no) : Grow am (am'.free a h) H H' := ⟨g.pre, g.fresh, fun b hb nb => g.freshNo b (List.mem_filter.mp hb).1 nb, fun b hb => List.mem_filter.mpr ⟨g.noK b hb, decide_eq_true fun e => n (by rw [← e]; exact hb)⟩, g.keep⟩
theorem RelS.push (r : RelS K cl am S H) {a : Addr} {o : DO} (h : a ∈ am.no) (n : a ∉ am.ad) (ho : OR K cl am H a o) : RelS K cl (am.push a h) (S ++ [o]) H := by
  refine ⟨?_, ?_, fun k u b h1 h2 => ?_, r.there⟩
  · show (am.ad ++ [a]).length = (S ++ [o]).length
    rw [List.length_append, List.length_append, r.len]
    rfl
  · show (am.ad ++ [a]).Nodup
    exact nd_snoc r.nd n
  · have h2 : (am.ad ++ [a])[k]? = some b := h2
    by_cases hk : k < S.length
    · rw [List.getElem?_append_left hk] at h1
      rw [List.getElem?_append_left (by rw [r.len]; exact hk)] at h2
      exact (r.ob k u b h1 h2).ext (Ext.push h) fun _ z => z
    · have hk' : S.length ≤ k := Nat.le_of_not_lt hk
      rw [List.getElem?_append_right hk'] at h1
      rw [List.getElem?_append_right (by rw [r.len]; exact hk'), r.len] at h2
      cases e : k - S.length with
      | zero =>
        rw [e] at h1 h2
        cases h1
        cases h2
        exact ho.ext (Ext.push h) fun _ z => z
      | succ m => rw [e] at h1; simp at h1
theorem RelS.free (r : RelS K cl am S H) {a : Addr} (h : a ∉ am.ad) : RelS K cl (am.free a h) S H :=
  ⟨r.len, r.nd, fun k u b h1 h2 => (r.ob k u b h1 h2).ext (Ext.free h) fun _ z => z, fun b hb => r.there b (List.mem_filter.mp hb).1⟩
end
section
variable {K : PySem.W.Frag} {cl : Str → Addr} {am am' : AM} {H H' : Hp} {S S' : Sto}
theorem VRs.length : ∀ {ds : List D} {vs : List V}, VRs K am H ds vs → ds.length = vs.length
  | _, _, .nil => rfl
  | _, _, .cons _ t => by rw [List.length_cons, List.length_cons, VRs.length t]
theorem VRs.get : ∀ {ds : List D} {vs : List V} {i : Nat} {d : D}, VRs K am H ds vs → ds[i]? = some d → ∃ v, vs[i]? = some v ∧ VR K am H d v
  | _, _, i, _, .nil, h => by simp at h
  | _, _, 0, _, .cons h _, e => by simp at e; subst e; exact ⟨_, rfl, h⟩
  | _, _, i + 1, _, .cons _ t, e => by
    obtain ⟨v, h1, h2⟩ := VRs.get (i := i) t (by simpa using e)
    exact ⟨v, by simpa using h1, h2⟩
theorem VRs.append : ∀ {ds es : List D} {vs us : List V}, VRs K am H ds vs → VRs K am H es us → VRs K am H (ds ++ es) (vs ++ us)
  | _, _, _, _, .nil, h => h
  | _, _, _, _, .cons h t, h' => .cons h (VRs.append t h')
theorem VRs.take : ∀ {ds : List D} {vs : List V} (n : Nat), VRs K am H ds vs → VRs K am H (ds.take n) (vs.take n)
  | _, _, 0, _ => by simpa using VRs.nil
  | _, _, n + 1, .nil => by simpa using VRs.nil
  | _, _, n + 1, .cons h t => by simpa using VRs.cons h (VRs.take n t)
theorem VRs.drop : ∀ {ds : List D} {vs : List V} (n : Nat), VRs K am H ds vs → VRs K am H (ds.drop n) (vs.drop n)
  | _, _, 0, h => by simpa using h
  | _, _, n + 1, .nil => by simpa using VRs.nil
  | _, _, n + 1, .cons h t => by simpa using VRs.drop n t
theorem VRs.setA : ∀ {ds : List D} {vs : List V} (i : Nat) {d : D} {v : V}, VRs K am H ds vs → VR K am H d v → VRs K am H (ds.set i d) (vs.set i v)
  | _, _, _, _, _, .nil, _ => by simpa using VRs.nil
  | _, _, 0, _, _, .cons _ t, h => by simpa using VRs.cons h t
  | _, _, i + 1, _, _, .cons h t, h' => by simpa using VRs.cons h (VRs.setA i t h')
theorem VRs.nil_iff {ds : List D} {vs : List V} (h : VRs K am H ds vs) : vs = [] ↔ ds = [] := by
  cases h with
  | nil => simp
  | cons _ _ => simp
theorem VRs.reverse : ∀ {ds : List D} {vs : List V}, VRs K am H ds vs → VRs K am H ds.reverse vs.reverse
  | _, _, .nil => .nil
  | _, _, .cons h t => by
    rw [List.reverse_cons, List.reverse_cons]
    exact (VRs.reverse t).append (.cons h .nil)
/-- a new tuple -/
theorem VR.tupNew {ds : List D} {vs : List V} {p : Addr} {o : Obj} (r : RelS K cl am S H) (h : VRs K am H ds vs) (hp : H p = none) (ho : o.dict = none) : VR K am (upd H p (.frz o (.tup vs))) (.tup ds) (.ref p) :=
  .tup (.inl ⟨o, upd_same, ho, r.new hp⟩) (h.mono (Grow.upd hp))
theorem VR.lstNew {ds : List D} {vs : List V} {p : Addr} (r : RelS K cl am S H) (h : VRs K am H ds vs) (hp : H p = none) : VR K am (upd H p (.lst vs)) (.lst ds) (.ref p) :=
  .lst upd_same (r.new hp) (h.mono (Grow.upd hp))
end
/-- of an evaluation: R ties the pure result to the real one; W is what is wished of an exception at the slots σ -/
noncomputable def Post (K : PySem.W.Frag) (cl : Str → Addr) (W : WX) (σ : L2.St) {α β : Type} (R : AM → Hp → α → β → Prop) (am : AM) (H : Hp) (r : Res α) (Q : β → Hp → Prop) : Prop := match r with
  | .ok a S => ∀ am' b H', Grow am am' H H' → RelS K cl am' S H' → R am' H' a b → Q b H'
  | .exc c S => ∀ am' H', Grow am am' H H' → RelS K cl am' S H' → W (.ref (cl c)) none σ H'
  | .bad => False
/-- the reading of a pure evaluation -/
noncomputable def TD (K : PySem.W.Frag) (cl : Str → Addr) (W : WX) {α β : Type} (R : AM → Hp → α → β → Prop) (f : Ev α) : L2.St → Hp → (β → Hp → Prop) → Prop := fun σ H Q =>
  ∃ am e S, RelS K cl am S H ∧ RelE K am H e σ ∧ Post K cl W σ R am H (f e S) Q
noncomputable abbrev RB : AM → Hp → Bool → Bool → Prop := fun _ _ a b => a = b
noncomputable def PostS (K : PySem.W.Frag) (cl : Str → Addr) (W : WX) (am : AM) (H : Hp) (r : SRes) (E : Ends) : Prop := match r with
  | .next e S => ∀ am' σ H', Grow am am' H H' → RelS K cl am' S H' → RelE K am' H' e σ → E.nx σ H'
  | .brk e S => ∀ am' σ H', Grow am am' H H' → RelS K cl am' S H' → RelE K am' H' e σ → E.bk σ H'
  | .cnt e S => ∀ am' σ H', Grow am am' H H' → RelS K cl am' S H' → RelE K am' H' e σ → E.ct σ H'
  | .ret d S => ∀ am' v H', Grow am am' H H' → RelS K cl am' S H' → VR K am' H' d v → E.rt v H'
  | .exc c e S => ∀ am' σ H', Grow am am' H H' → RelS K cl am' S H' → RelE K am' H' e σ → W (.ref (cl c)) none σ H'
  | .bad => False
noncomputable def TDs (K : PySem.W.Frag) (cl : Str → Addr) (W : WX) (f : Stm) : TS := fun E σ H => ∃ am e S, RelS K cl am S H ∧ RelE K am H e σ ∧ PostS K cl W am H (f e S) E
section
variable {K : PySem.W.Frag} {cl : Str → Addr} {W : WX} {σ : L2.St} {α β γ δ : Type} {R : AM → Hp → α → β → Prop} {R' : AM → Hp → γ → δ → Prop} {am am' : AM} {H H' : Hp} {S : Sto}
theorem Post.imp {r : Res α} {Q Q' : β → Hp → Prop} (p : Post K cl W σ R am H r Q) (h : ∀ b H', Q b H' → Q' b H') : Post K cl W σ R am H r Q' := by
  cases r with
  | ok a S => exact fun am' b H' g rs rb => h _ _ (p am' b H' g rs rb)
  | exc c S => exact p
  | bad => exact p
/-- a step of an evaluation, then the rest -/
theorem Post.step {r : Res α} {k : α → Sto → Res γ} {Q : δ → Hp → Prop} (p : Post K cl W σ R' am H (r.bind k) Q) :
    Post K cl W σ R am H r (fun b H1 => ∃ am1 S1 a, r = .ok a S1 ∧ Grow am am1 H H1 ∧ RelS K cl am1 S1 H1 ∧ R am1 H1 a b ∧ Post K cl W σ R' am1 H1 (k a S1) Q) := by
  cases r with
  | ok a S =>
    intro am1 b H1 g rs rb
    refine ⟨am1, S, a, rfl, g, rs, rb, ?_⟩
    have p : Post K cl W σ R' am H (k a S) Q := p
    cases e : k a S with
    | ok c S2 =>
      rw [e] at p
      exact fun am2 d H2 g2 rs2 rd => p am2 d H2 (g.trans g2) rs2 rd
    | exc c S2 =>
      rw [e] at p
      exact fun am2 H2 g2 rs2 => p am2 H2 (g.trans g2) rs2
    | bad => rw [e] at p; exact p
  | exc c S => exact p
  | bad => exact p
theorem PostS.grow {r : SRes} {E : Ends} (g : Grow am am' H H') (p : PostS K cl W am H r E) : PostS K cl W am' H' r E := by
  cases r with
  | next e S => exact fun am2 σ H2 g2 rs re => p am2 σ H2 (g.trans g2) rs re
  | brk e S => exact fun am2 σ H2 g2 rs re => p am2 σ H2 (g.trans g2) rs re
  | cnt e S => exact fun am2 σ H2 g2 rs re => p am2 σ H2 (g.trans g2) rs re
  | ret d S => exact fun am2 v H2 g2 rs rv => p am2 v H2 (g.trans g2) rs rv
  | exc c e S => exact fun am2 σ H2 g2 rs re => p am2 σ H2 (g.trans g2) rs re
  | bad => exact p
/-- an evaluation, then a statement's rest -/
noncomputable def Res.stm {α : Type} (r : Res α) (e : En) (k : α → Sto → SRes) : SRes := match r with
  | .ok a S => k a S
  | .exc c S => .exc c e S
  | .bad => .bad
theorem PostS.step {r : Res α} {k : α → Sto → SRes} {E : Ends} {e : En} (re : RelE K am H e σ) (p : PostS K cl W am H (r.stm e k) E) :
    Post K cl W σ R am H r (fun b H1 => ∃ am1 S1 a, r = .ok a S1 ∧ Grow am am1 H H1 ∧ RelS K cl am1 S1 H1 ∧ R am1 H1 a b ∧ PostS K cl W am1 H1 (k a S1) E) := by
  cases r with
  | ok a S =>
    intro am1 b H1 g rs rb
    exact ⟨am1, S, a, rfl, g, rs, rb, PostS.grow g p⟩
  | exc c S => exact fun am' H' g rs => p am' σ H' g rs (re.mono g)
  | bad => exact p
end
@[simp] theorem Res.stm_ok {α : Type} {a : α} {S : Sto} {e : En} {k : α → Sto → SRes} : (Res.ok a S).stm e k = k a S := id rfl
@[simp] theorem Res.stm_exc {α : Type} {c : Str} {S : Sto} {e : En} {k : α → Sto → SRes} : (Res.exc c S : Res α).stm e k = .exc c e S := id rfl
@[simp] theorem Res.stm_bad {α : Type} {e : En} {k : α → Sto → SRes} : (Res.bad : Res α).stm e k = .bad := id rfl
noncomputable def SRes.seq (r : SRes) (k : En → Sto → SRes) : SRes := match r with
  | .next e S => k e S
  | r => r
@[simp] theorem SRes.seq_next {e : En} {S : Sto} {k : En → Sto → SRes} : (SRes.next e S).seq k = k e S := id rfl
@[simp] theorem SRes.seq_ret {d : D} {S : Sto} {k : En → Sto → SRes} : (SRes.ret d S).seq k = .ret d S := id rfl
@[simp] theorem SRes.seq_brk {e : En} {S : Sto} {k : En → Sto → SRes} : (SRes.brk e S).seq k = .brk e S := id rfl
@[simp] theorem SRes.seq_cnt {e : En} {S : Sto} {k : En → Sto → SRes} : (SRes.cnt e S).seq k = .cnt e S := id rfl
@[simp] theorem SRes.seq_exc {c : Str} {e : En} {S : Sto} {k : En → Sto → SRes} : (SRes.exc c e S).seq k = .exc c e S := id rfl
@[simp] theorem SRes.seq_bad {k : En → Sto → SRes} : (SRes.bad).seq k = .bad := id rfl
section
variable {X : Cx}
theorem _root_.L2.PE.imp {e : Expr} {t t' : TE} (h : PE X e t) (i : ∀ σ H Q, t' σ H Q → t σ H Q) : PE X e t' := ⟨fun pins s σ H Q I q => h.run pins s σ H Q I (i σ H Q q)⟩
theorem _root_.L2.PT.imp {e : Expr} {t t' : TT} (h : PT X e t) (i : ∀ σ H Q, t' σ H Q → t σ H Q) : PT X e t' := ⟨fun pins s σ H Q I q => h.run pins s σ H Q I (i σ H Q q)⟩
theorem _root_.L2.PW.imp {e : Expr} {t t' : TT} (h : PW X e t) (i : ∀ σ H Q, t' σ H Q → t σ H Q) : PW X e t' := ⟨fun wh pins s σ H Q I q => h.run wh pins s σ H Q I (i σ H Q q)⟩
theorem _root_.L2.PA.imp {es : List Expr} {t t' : TA} (h : PA X es t) (i : ∀ σ H Q, t' σ H Q → t σ H Q) : PA X es t' := ⟨fun pos pins s σ H Q I q => h.run pos pins s σ H Q I (i σ H Q q)⟩
theorem _root_.L2.PS.imp {st : Stmt} {t t' : TS} (h : PS X st t) (i : ∀ E σ H, t' E σ H → t E σ H) : PS X st t' := ⟨fun pins s σ H E I q => h.run pins s σ H E I (i E σ H q)⟩
theorem _root_.L2.PSs.imp {st : List Stmt} {t t' : TS} (h : PSs X st t) (i : ∀ E σ H, t' E σ H → t E σ H) : PSs X st t' := ⟨fun pins s σ H E I q => h.run pins s σ H E I (i E σ H q)⟩
end
noncomputable abbrev QE (cl : Str → Addr) (W : WX) (X : Cx) (e : Expr) (f : Ev D) : Prop := PE X e (TD X.K cl W (VR X.K) f)
noncomputable abbrev QT (cl : Str → Addr) (W : WX) (X : Cx) (e : Expr) (f : Ev Bool) : Prop := PT X e (TD X.K cl W RB f)
noncomputable abbrev QW (cl : Str → Addr) (W : WX) (X : Cx) (e : Expr) (f : Ev Bool) : Prop := PW X e (TD X.K cl W RB f)
noncomputable abbrev QA (cl : Str → Addr) (W : WX) (X : Cx) (es : List Expr) (f : Ev (List D)) : Prop := PA X es (TD X.K cl W (VRs X.K) f)
noncomputable abbrev QS (cl : Str → Addr) (W : WX) (X : Cx) (st : Stmt) (f : Stm) : Prop := PS X st (TDs X.K cl W f)
noncomputable abbrev QB (cl : Str → Addr) (W : WX) (X : Cx) (st : List Stmt) (f : Stm) : Prop := PSs X st (TDs X.K cl W f)
end Pu
set_option Elab.async false
set_option linter.all false
set_option maxRecDepth 100000
namespace Pu
open PySem PySem.Spec PyProof.Rows L2
/-- a list that may be read -/
noncomputable def lsOf (S : Sto) : D → Option (List D)
  | .lst xs => some xs
  | .fls xs => some xs
  | .ref k => match S[k]? with
    | some (.lst xs) => some xs
    | _ => none
  | _ => none
/-- a list that is not locked -/
noncomputable def lvOf (S : Sto) : D → Option (List D)
  | .lst xs => some xs
  | .ref k => match S[k]? with
    | some (.lst xs) => some xs
    | _ => none
  | _ => none
noncomputable def dcOf (S : Sto) : D → Option (List (Key × D))
  | .dct xs => some xs
  | .ref k => match S[k]? with
    | some (.dct xs) => some xs
    | _ => none
  | _ => none
@[simp] theorem lsOf_lst {S : Sto} {xs : List D} : lsOf S (.lst xs) = some xs := id rfl
@[simp] theorem lsOf_ref {S : Sto} {k : Nat} {xs : List D} (h : S[k]? = some (.lst xs)) : lsOf S (.ref k) = some xs := by
  simp only [lsOf, h]
@[simp] theorem lsOf_fls {S : Sto} {xs : List D} : lsOf S (.fls xs) = some xs := id rfl
@[simp] theorem lvOf_lst {S : Sto} {xs : List D} : lvOf S (.lst xs) = some xs := id rfl
@[simp] theorem lvOf_ref {S : Sto} {k : Nat} {xs : List D} (h : S[k]? = some (.lst xs)) : lvOf S (.ref k) = some xs := by
  simp only [lvOf, h]
@[simp] theorem dcOf_dct {S : Sto} {xs : List (Key × D)} : dcOf S (.dct xs) = some xs := id rfl
@[simp] theorem dcOf_ref {S : Sto} {k : Nat} {xs : List (Key × D)} (h : S[k]? = some (.dct xs)) : dcOf S (.ref k) = some xs := by
  simp only [dcOf, h]
section
variable {K : PySem.W.Frag} {cl : Str → Addr} {am : AM} {H : Hp} {S : Sto} {d : D} {v : V}
theorem lsOf_ok (r : RelS K cl am S H) (h : VR K am H d v) {xs : List D} (e : lsOf S d = some xs) : ∃ a vs, v = .ref a ∧ SqL K H a vs ∧ VRs K am H xs vs := by
  cases h with
  | lst h1 h2 h3 =>
    cases e
    exact ⟨_, _, rfl, .inl (.inl h1), h3⟩
  | fls h1 h3 =>
    cases e
    exact ⟨_, _, rfl, h1.seq, h3⟩
  | ref h1 =>
    rename_i n a
    simp only [lsOf] at e
    cases q : S[n]? with
    | none => rw [q] at e; cases e
    | some o =>
      rw [q] at e
      cases o with
      | lst ys =>
        cases e
        obtain ⟨vs, h2, h3⟩ := r.ob n _ a q h1
        exact ⟨a, vs, rfl, .inl (.inl h2), h3⟩
      | dct ys => cases e
      | ins c fs => cases e
  | _ => cases e
theorem lvOf_ok (r : RelS K cl am S H) (h : VR K am H d v) {xs : List D} (e : lvOf S d = some xs) : ∃ a vs, v = .ref a ∧ H a = some (.lst vs) ∧ VRs K am H xs vs := by
  cases h with
  | lst h1 h2 h3 =>
    cases e
    exact ⟨_, _, rfl, h1, h3⟩
  | ref h1 =>
    rename_i n a
    simp only [lvOf] at e
    cases q : S[n]? with
    | none => rw [q] at e; cases e
    | some o =>
      rw [q] at e
      cases o with
      | lst ys =>
        cases e
        obtain ⟨vs, h2, h3⟩ := r.ob n _ a q h1
        exact ⟨a, vs, rfl, h2, h3⟩
      | dct ys => cases e
      | ins c fs => cases e
  | _ => cases e
theorem dcOf_ok (r : RelS K cl am S H) (h : VR K am H d v) {xs : List (Key × D)} (e : dcOf S d = some xs) : ∃ a vs, v = .ref a ∧ H a = some (.dK vs) ∧ VRk K am H xs vs := by
  cases h with
  | dct h1 h2 h3 =>
    cases e
    exact ⟨_, _, rfl, h1, h3⟩
  | ref h1 =>
    rename_i n a
    simp only [dcOf] at e
    cases q : S[n]? with
    | none => rw [q] at e; cases e
    | some o =>
      rw [q] at e
      cases o with
      | dct ys =>
        cases e
        obtain ⟨vs, h2, h3⟩ := r.ob n _ a q h1
        exact ⟨a, vs, rfl, h2, h3⟩
      | lst ys => cases e
      | ins c fs => cases e
  | _ => cases e
end
noncomputable def eC (d : D) : Ev D := fun _ S => .ok d S
noncomputable def eVar (i : Nat) : Ev D := fun e S => match e[i]? with
  | some (some d) => .ok d S
  | _ => .bad
section
variable {cl : Str → Addr} {W : WX} {X : Cx}
theorem imp_c {d : D} {v : V} (h : ∀ am H, VR X.K am H d v) : ∀ σ H Q, TD X.K cl W (VR X.K) (eC d) σ H Q → tC v σ H Q := fun σ H Q ⟨am, e, S, rs, re, p⟩ => p am v H .refl rs (h am H)
theorem qe_int {i j pos} : QE cl W X (.Constant (.int i) j pos) (eC (.int i)) := pe_int.imp (imp_c fun _ _ => .int i)
theorem qe_bl {b j pos} : QE cl W X (.Constant (.bool b) j pos) (eC (.bl b)) := pe_bl.imp (imp_c fun _ _ => .bl b)
theorem qe_non {j pos} : QE cl W X (.Constant .none j pos) (eC .non) := pe_non.imp (imp_c fun _ _ => .non)
theorem qe_str {x j pos} : QE cl W X (.Constant (.str x) j pos) (eC (.str x)) := pe_str.imp (imp_c fun _ _ => .str x)
theorem qe_glob {x : Str} {d : D} {v : V} {u : Value} {pos : Pos} (hg : Gl X x) (hm : X.mg x = some u) (r : RelV v u) (h : ∀ am H, VR X.K am H d v) (hd : (x == ("__debug__" : Str)) = false := by decide) : QE cl W X (.Name x pos) (eC d) :=
  (pe_glob hg hm r hd).imp (imp_c h)
theorem qv (i : Nat) {x : Str} {pos : Pos} (hN : X.N[i]? = some x := by rfl) (hv : Vis X.env.scope x := by first | exact Or.inl rfl | exact Or.inr (Or.inl rfl) | exact Or.inr (Or.inr rfl)) (hd : (x == ("__debug__" : Str)) = false := by decide)
    (hcd : (x == ("__classdict__" : Str)) = false := by decide) : QE cl W X (.Name x pos) (eVar i) := (pe_var hN hv hd hcd).imp fun σ H Q ⟨am, e, S, rs, re, p⟩ => by
  unfold eVar at p
  cases q : e[i]? with
  | none => rw [q] at p; exact p.elim
  | some z =>
    rw [q] at p
    cases z with
    | none => exact p.elim
    | some d =>
      obtain ⟨v, h1, h2⟩ := re.get i d q
      exact ⟨v, h1, p am v H .refl rs h2⟩
end
noncomputable def e2 (op : D → D → Sto → Res D) (f g : Ev D) : Ev D := fun e S => (f e S).bind fun x S => (g e S).bind fun y S => op x y S
noncomputable def e1 (op : D → Sto → Res D) (f : Ev D) : Ev D := fun e S => (f e S).bind fun x S => op x S
noncomputable def Ok2 (K : PySem.W.Frag) (cl : Str → Addr) (r : R2) (op : D → D → Sto → Res D) : Prop :=
  ∀ (W : WX) (σ : L2.St) (am : AM) (S : Sto) (H : Hp) (d e : D) (v u : V) (Q : VK), RelS K cl am S H → VR K am H d v → VR K am H e u → Post K cl W σ (VR K) am H (op d e S) Q → r v u H Q
noncomputable def Ok1 (K : PySem.W.Frag) (cl : Str → Addr) (r : V → Hp → VK → Prop) (op : D → Sto → Res D) : Prop :=
  ∀ (W : WX) (σ : L2.St) (am : AM) (S : Sto) (H : Hp) (d : D) (v : V) (Q : VK), RelS K cl am S H → VR K am H d v → Post K cl W σ (VR K) am H (op d S) Q → r v H Q
section
variable {cl : Str → Addr} {W : WX} {X : Cx} {a b c : Expr} {f g h : Ev D} {pos : Pos}
theorem imp_2 {r : R2} {op : D → D → Sto → Res D} (ok : Ok2 X.K cl r op) : ∀ σ H Q, TD X.K cl W (VR X.K) (e2 op f g) σ H Q → tOp r (TD X.K cl W (VR X.K) f) (TD X.K cl W (VR X.K) g) σ H Q := fun σ H Q ⟨am, e, S, rs, re, p⟩ =>
  ⟨am, e, S, rs, re, (Post.step p).imp fun x H1 ⟨am1, S1, d1, _, g1, rs1, rv1, p1⟩ =>
    ⟨am1, e, S1, rs1, re.mono g1, (Post.step p1).imp fun y H2 ⟨am2, S2, d2, _, g2, rs2, rv2, p2⟩ => ok W σ am2 S2 H2 d1 d2 x y Q rs2 (rv1.mono g2) rv2 p2⟩⟩
theorem imp_1 {r : V → Hp → VK → Prop} {op : D → Sto → Res D} (ok : Ok1 X.K cl r op) : ∀ σ H Q, TD X.K cl W (VR X.K) (e1 op f) σ H Q → tUn r (TD X.K cl W (VR X.K) f) σ H Q := fun σ H Q ⟨am, e, S, rs, re, p⟩ =>
  ⟨am, e, S, rs, re, (Post.step p).imp fun x H1 ⟨am1, S1, d1, _, g1, rs1, rv1, p1⟩ => ok W σ am1 S1 H1 d1 x Q rs1 rv1 p1⟩
theorem qe_bin {op : Operator} {r : R2} {o : D → D → Sto → Res D} (ho : OpR X (binaryOp op) r) (ok : Ok2 X.K cl r o) (ha : QE cl W X a f) (hb : QE cl W X b g) : QE cl W X (.BinOp a op b pos) (e2 o f g) := (pe_op ho ha hb).imp (imp_2 ok)
theorem qe_un {op : UnaryOp} {r : V → Hp → VK → Prop} {o : D → Sto → Res D} (ho : UnR X (unaryOp op) r) (ok : Ok1 X.K cl r o) (ha : QE cl W X a f) : QE cl W X (.UnaryOp op a pos) (e1 o f) := (pe_un ho ha).imp (imp_1 ok)
/-- a value that has to be True or False -/
noncomputable def toB (d : D) (S : Sto) : Res Bool := match d with
  | .bl b => .ok b S
  | _ => .bad
@[simp] theorem toB_bl {b : Bool} {S : Sto} : toB (.bl b) S = .ok b S := id rfl
noncomputable def eTB (f : Ev D) : Ev Bool := fun e S => (f e S).bind toB
theorem imp_TB : ∀ σ H Q, TD X.K cl W RB (eTB f) σ H Q → TD X.K cl W (VR X.K) f σ H (fun x H' => ∃ k, x = .bl k ∧ Q k H') := fun σ H Q ⟨am, e, S, rs, re, p⟩ =>
  ⟨am, e, S, rs, re, (Post.step p).imp fun x H1 ⟨am1, S1, d1, _, g1, rs1, rv1, p1⟩ => by
    cases d1 with
    | bl b =>
      cases rv1
      exact ⟨b, rfl, p1 am1 b H1 .refl rs1 rfl⟩
    | _ => exact p1.elim⟩
theorem qe_cmp {op : CmpOp} {r : R2} {o : D → D → Sto → Res D} (ho : OpR X (compareOp op) r) (ok : Ok2 X.K cl r o) (ha : QE cl W X a f) (hb : QE cl W X b g) (hm : behindInMarks op b = false) : QE cl W X (.Compare a [op] [b] pos) (e2 o f g) := (pe_cmpR ho ha hb hm).imp (imp_2 ok)
theorem qt_cmp {op : CmpOp} {r : R2} {o : D → D → Sto → Res D} (ho : OpR X (compareOp op) r) (ok : Ok2 X.K cl r o) (ha : QE cl W X a f) (hb : QE cl W X b g) (hm : behindInMarks op b = false) : QT cl W X (.Compare a [op] [b] pos) (eTB (e2 o f g)) :=
  (pt_cmpR ho ha hb hm).imp fun σ H Q t => imp_2 ok _ _ _ (imp_TB _ _ _ t)
/-- a op1 b op2 c -/
noncomputable def eCh (o o' : D → D → Sto → Res D) (f g h : Ev D) : Ev D := fun e S => (f e S).bind fun x S => (g e S).bind fun y S => (o x y S).bind fun z S => (toB z S).bind fun k S =>
  if k = true then (h e S).bind fun w S => o' y w S else .ok (.bl false) S
/-- what an operation that changes nothing gives -/
noncomputable def Ok2b (K : PySem.W.Frag) (cl : Str → Addr) (r : R2) (op : D → D → Sto → Res D) : Prop := Ok2 K cl r op ∧ ∀ d e S, ∃ o : Option Bool, op d e S = (opt o S).bind fun b S => .ok (.bl b) S
theorem imp_ch {r r' : R2} {o o' : D → D → Sto → Res D} (ok : Ok2b X.K cl r o) (ok' : Ok2 X.K cl r' o') : ∀ σ H Q, TD X.K cl W (VR X.K) (eCh o o' f g h) σ H Q → tChain r r' (TD X.K cl W (VR X.K) f) (TD X.K cl W (VR X.K) g) (TD X.K cl W (VR X.K) h) σ H Q := fun σ H Q ⟨am, e, S, rs, re, p⟩ =>
  ⟨am, e, S, rs, re, (Post.step p).imp fun x H1 ⟨am1, S1, d1, _, g1, rs1, rv1, p1⟩ =>
    ⟨am1, e, S1, rs1, re.mono g1, (Post.step p1).imp fun y H2 ⟨am2, S2, d2, _, g2, rs2, rv2, p2⟩ => by
      obtain ⟨ob, eo⟩ := ok.2 d1 d2 S2
      refine ok.1 W σ am2 S2 H2 d1 d2 x y _ rs2 (rv1.mono g2) rv2 ?_
      rw [eo] at p2 ⊢
      cases ob with
      | none => exact p2.elim
      | some b =>
        intro am3 z H3 g3 rs3 rv3
        cases rv3
        refine ⟨b, rfl, ?_⟩
        have p3 : Post X.K cl W σ (VR X.K) am2 H2 (if b = true then (h e S2).bind fun w S => o' d2 w S else .ok (.bl false) S2) Q := p2
        cases b with
        | false =>
          show Q (.bl false) H3
          exact p3 am3 _ H3 g3 rs3 (.bl false)
        | true =>
          show TD X.K cl W (VR X.K) h σ H3 _
          refine ⟨am3, e, S2, rs3, re.mono (g1.trans (g2.trans g3)), ?_⟩
          have p4 : Post X.K cl W σ (VR X.K) am2 H2 ((h e S2).bind fun w S => o' d2 w S) Q := p3
          have p5 : Post X.K cl W σ (VR X.K) am3 H3 ((h e S2).bind fun w S => o' d2 w S) Q := by
            cases q : (h e S2).bind fun w S => o' d2 w S with
            | ok a S => rw [q] at p4; exact fun am' b H' gg => p4 am' b H' (g3.trans gg)
            | exc c S => rw [q] at p4; exact fun am' H' gg => p4 am' H' (g3.trans gg)
            | bad => rw [q] at p4; exact p4
          exact (Post.step p5).imp fun w H4 ⟨am4, S4, d4, _, g4, rs4, rv4, p6⟩ => ok' W σ am4 S4 H4 d2 d4 y w Q rs4 ((rv2.mono g3).mono g4) rv4 p6⟩⟩
theorem qe_chain {op op' : CmpOp} {r r' : R2} {o o' : D → D → Sto → Res D} (ho : OpR X (compareOp op) r) (ok : Ok2b X.K cl r o) (ho' : OpR X (compareOp op') r') (ok' : Ok2 X.K cl r' o') (ha : QE cl W X a f) (hb : QE cl W X b g) (hc : QE cl W X c h)
    (hm : lastMarks [op, op'] [b, c] = false := by with_unfolding_all rfl) : QE cl W X (.Compare a [op, op'] [b, c] pos) (eCh o o' f g h) := (pe_chain ho ho' ha hb hc hm).imp (imp_ch ok ok')
theorem qt_chain {op op' : CmpOp} {r r' : R2} {o o' : D → D → Sto → Res D} (ho : OpR X (compareOp op) r) (ok : Ok2b X.K cl r o) (ho' : OpR X (compareOp op') r') (ok' : Ok2 X.K cl r' o') (ha : QE cl W X a f) (hb : QE cl W X b g) (hc : QE cl W X c h)
    (hm : lastMarks [op, op'] [b, c] = false := by with_unfolding_all rfl) : QT cl W X (.Compare a [op, op'] [b, c] pos) (eTB (eCh o o' f g h)) := (pt_chain ho ho' ha hb hc hm).imp fun σ H Q t => imp_ch ok ok' _ _ _ (imp_TB _ _ _ t)
end
noncomputable def catL (x y : Option (List D)) (S : Sto) : Res D := match x, y with
  | some a, some b => if a.length + b.length ≤ sizeLine then .ok (.lst (a ++ b)) S else .bad
  | _, _ => .bad
noncomputable def addD (d e : D) (S : Sto) : Res D := match d, e with
  | .int a, .int b => .ok (.int (a + b)) S
  | .str a, .str b => if a.length + b.length ≤ sizeLine then .ok (.str (a ++ b)) S else .bad
  | .tup a, .tup b => if a.length + b.length ≤ sizeLine then .ok (.tup (a ++ b)) S else .bad
  | _, _ => catL (lvOf S d) (lvOf S e) S
noncomputable def FitMul (i j : Int) : Prop := (-(2 ^ 64) < i ∧ i < 2 ^ 64) ∨ (-(2 ^ 64) < j ∧ j < 2 ^ 64) ∨ (Builtin.Int.intBits i : Int) + (Builtin.Int.intBits j : Int) ≤ 134217728
noncomputable instance (i j : Int) : Decidable (FitMul i j) := by unfold FitMul; infer_instance
/-- ints in, a value out -/
noncomputable def intD (C : Int → Int → Prop) [∀ i j, Decidable (C i j)] (g : Int → Int → D) (d e : D) (S : Sto) : Res D := match d, e with
  | .int a, .int b => if C a b then .ok (g a b) S else .bad
  | _, _ => .bad
@[simp] theorem intD_int {C : Int → Int → Prop} [∀ i j, Decidable (C i j)] {g : Int → Int → D} {a b : Int} {S : Sto} : intD C g (.int a) (.int b) S = if C a b then .ok (g a b) S else .bad := id rfl
noncomputable abbrev subD := intD (fun _ _ => True) fun i j => .int (i - j)
/-- // and % as Python has them, by a divisor that is not 0 -/
noncomputable def fdivI (i j : Int) : Int := if 0 < j then i / j else (-i) / (-j)
noncomputable def fmodI (i j : Int) : Int := if 0 < j then i % j else -((-i) % (-j))
noncomputable def DivOk (_ j : Int) : Prop := (0 < j ∧ j.natAbs.log2 < 9000) ∨ (j ≠ 0 ∧ j.natAbs < 1073741824)
noncomputable instance (i j : Int) : Decidable (DivOk i j) := by unfold DivOk; infer_instance
noncomputable abbrev fdivD := intD DivOk fun i j => .int (fdivI i j)
noncomputable abbrev modD := intD (fun _ j => j ≠ 0) fun i j => .int (fmodI i j)
noncomputable def PowOk (i j : Int) : Prop := 0 ≤ j ∧ (Builtin.Int.intBits i : Int) * j ≤ 2 ^ 27
noncomputable instance (i j : Int) : Decidable (PowOk i j) := by unfold PowOk; infer_instance
noncomputable abbrev powD := intD PowOk fun i j => .int (i ^ j.toNat)
noncomputable abbrev ltD := intD (fun _ _ => True) fun i j => .bl (decide (i < j))
noncomputable abbrev leD := intD (fun _ _ => True) fun i j => .bl (decide (i ≤ j))
noncomputable abbrev gtD := intD (fun _ _ => True) fun i j => .bl (decide (j < i))
noncomputable abbrev geD := intD (fun _ _ => True) fun i j => .bl (decide (j ≤ i))
theorem fdivI_eq (i j : Int) (h : j ≠ 0) : i.fdiv j = fdivI i j := by
  unfold fdivI
  by_cases h0 : 0 < j
  · rw [if_pos h0, Int.fdiv_eq_ediv_of_nonneg i (by omega)]
  · rw [if_neg h0]
    have e : i.fdiv j = (-i).fdiv (-j) := by rw [Int.neg_fdiv_neg]
    rw [e, Int.fdiv_eq_ediv_of_nonneg _ (by omega)]
theorem fmodI_eq (i j : Int) (h : j ≠ 0) : i.fmod j = fmodI i j := by
  unfold fmodI
  by_cases h0 : 0 < j
  · rw [if_pos h0, Int.fmod_eq_emod_of_nonneg i (by omega)]
  · rw [if_neg h0]
    have e1 : i.fmod j = i - j * i.fdiv j := Int.fmod_def i j
    have e2 : i.fdiv j = (-i) / (-j) := by
      have := fdivI_eq i j h
      unfold fdivI at this
      rw [if_neg h0] at this
      exact this
    have e3 : (-i) % (-j) = -i - (-j) * ((-i) / (-j)) := Int.emod_def _ _
    rw [e1, e2, e3, Int.neg_mul]
    omega
section
variable {cl : Str → Addr} {W : WX} {X : Cx}
theorem ok_intD {C : Int → Int → Prop} [∀ i j, Decidable (C i j)] {g : Int → Int → D} {r : R2} {gv : Int → Int → V} (hg : ∀ am H i j, VR X.K am H (g i j) (gv i j)) (hr : ∀ i j H Q, C i j → Q (gv i j) H → r (.int i) (.int j) H Q) : Ok2 X.K cl r (intD C g) := by
  intro W σ am S H d e v u Q rs h1 h2 p
  cases h1 with
  | int i =>
    cases h2 with
    | int j =>
      rw [intD_int] at p
      by_cases hc : C i j
      · rw [if_pos hc] at p
        exact hr i j H Q hc (p am _ H .refl rs (hg am H i j))
      · rw [if_neg hc] at p
        exact p.elim
    | _ => exact p.elim
  | _ => exact p.elim
theorem ok_add : Ok2 X.K cl (fun x y H Q => (∃ i j, x = .int i ∧ y = .int j ∧ Q (.int (i + j)) H) ∨ (∃ i j, x = .str i ∧ y = .str j ∧ i.length + j.length ≤ sizeLine ∧ Q (.str (i ++ j)) H) ∨ rCatF X.K x y H Q ∨ rCat x y H Q) addD := by
  intro W σ am S H d e v u Q rs h1 h2 p
  have cat : Post X.K cl W σ (VR X.K) am H (catL (lvOf S d) (lvOf S e) S) Q → rCat v u H Q := fun p => by
    cases e1 : lvOf S d with
    | none => rw [e1] at p; exact p.elim
    | some xs =>
      cases e2 : lvOf S e with
      | none => rw [e1, e2] at p; exact p.elim
      | some ys =>
        rw [e1, e2] at p
        obtain ⟨a, vs, ev, r1, hs⟩ := lvOf_ok rs h1 e1
        obtain ⟨b, us, eu, r2, hs2⟩ := lvOf_ok rs h2 e2
        unfold catL at p
        simp only at p
        by_cases hz : xs.length + ys.length ≤ sizeLine
        · rw [if_pos hz] at p
          exact ⟨a, b, vs, us, ev, eu, r1, r2, by rw [← hs.length, ← hs2.length]; exact hz, fun q hq => p am _ _ (Grow.upd hq) (rs.upd hq) (VR.lstNew rs (hs.append hs2) hq)⟩
        · rw [if_neg hz] at p
          exact p.elim
  cases h1 with
  | int i =>
    cases h2 with
    | int j => exact .inl ⟨i, j, rfl, rfl, p am _ H .refl rs (.int _)⟩
    | _ => exact p.elim
  | str x =>
    cases h2 with
    | str y =>
      simp only [addD] at p
      by_cases hz : x.length + y.length ≤ sizeLine
      · rw [if_pos hz] at p
        exact .inr (.inl ⟨x, y, rfl, rfl, hz, p am _ H .refl rs (.str _)⟩)
      · rw [if_neg hz] at p
        exact p.elim
    | _ => exact p.elim
  | @tup a1 vs1 ds1 t1 hs1 =>
    cases h2 with
    | @tup a2 vs2 ds2 t2 hs2 =>
      simp only [addD] at p
      by_cases hz : ds1.length + ds2.length ≤ sizeLine
      · rw [if_pos hz] at p
        refine .inr (.inr (.inl ⟨a1, a2, vs1, vs2, rfl, rfl, t1.seq, t2.seq, by rw [← hs1.length, ← hs2.length]; exact hz, fun e1 => ?_, fun _ e2 => ?_, fun _ _ q ob hq hd => ?_⟩))
        · have e3 := hs1.nil_iff.mp e1
          subst e3
          exact p am _ H .refl rs (.tup t2 hs2)
        · have e3 := hs2.nil_iff.mp e2
          subst e3
          rw [List.append_nil] at p
          exact p am _ H .refl rs (.tup t1 hs1)
        · exact p am _ _ (Grow.upd hq) (rs.upd hq) (VR.tupNew rs (hs1.append hs2) hq hd)
      · rw [if_neg hz] at p
        exact p.elim
    | _ => exact p.elim
  | lst _ _ _ => exact .inr (.inr (.inr (cat (by cases h2 <;> exact p))))
  | ref _ => exact .inr (.inr (.inr (cat (by cases h2 <;> exact p))))
  | _ => cases h2 <;> exact p.elim
theorem op_addD : OpR X (binaryOp .Add) (fun x y H Q => (∃ i j, x = .int i ∧ y = .int j ∧ Q (.int (i + j)) H) ∨ (∃ i j, x = .str i ∧ y = .str j ∧ i.length + j.length ≤ sizeLine ∧ Q (.str (i ++ j)) H) ∨ rCatF X.K x y H Q ∨ rCat x y H Q) :=
  OpR.or (by exact op_add) (OpR.or op_add_str (OpR.or op_catF op_cat))
end
end Pu
set_option Elab.async false
set_option linter.all false
set_option maxRecDepth 100000
namespace Pu
open PySem PySem.Spec PyProof.Rows L2
section
variable {cl : Str → Addr} {W : WX} {X : Cx} {a b c : Expr} {f g h : Ev D} {pos : Pos}
theorem qe_add (ha : QE cl W X a f) (hb : QE cl W X b g) : QE cl W X (.BinOp a .Add b pos) (e2 addD f g) := qe_bin op_addD ok_add ha hb
theorem qe_sub (ha : QE cl W X a f) (hb : QE cl W X b g) : QE cl W X (.BinOp a .Sub b pos) (e2 subD f g) :=
  qe_bin op_sub (ok_intD (gv := fun i j => .int (i - j)) (fun _ _ _ _ => .int _) fun i j H Q _ q => ⟨i, j, rfl, rfl, q⟩) ha hb
/-- * -/
noncomputable def repL (x : Option (List D)) (k : Int) (S : Sto) : Res D := match x with
  | some xs => if -(2 ^ 63) ≤ k ∧ k < 2 ^ 63 ∧ xs.length * k.toNat ≤ sizeLine then .ok (.lst (List.replicate k.toNat xs).flatten) S else .bad
  | none => .bad
noncomputable def mulD (d e : D) (S : Sto) : Res D := match d, e with
  | .int a, .int b => if FitMul a b then .ok (.int (a * b)) S else .bad
  | x, .int k => repL (lvOf S x) k S
  | _, _ => .bad
noncomputable def rMulA : R2 := fun x y H Q => rI CMul (fun i j => .int (i * j)) x y H Q ∨ rI CMulX (fun i j => .int (i * j)) x y H Q ∨ rRep x y H Q
theorem op_mulA : OpR X (binaryOp .Mult) rMulA := OpR.or op_mul (OpR.or op_mulX op_rep)
theorem VRs.replicate {K : PySem.W.Frag} {am : AM} {H : Hp} {ds : List D} {vs : List V} (h : VRs K am H ds vs) : ∀ n, VRs K am H (List.replicate n ds).flatten (List.replicate n vs).flatten
  | 0 => .nil
  | n + 1 => by
    rw [List.replicate_succ, List.replicate_succ, List.flatten_cons, List.flatten_cons]
    exact h.append (VRs.replicate h n)
theorem ok_mul : Ok2 X.K cl rMulA mulD := by
  intro W σ am S H d e v u Q rs h1 h2 p
  have rep : ∀ k, u = .int k → Post X.K cl W σ (VR X.K) am H (repL (lvOf S d) k S) Q → rMulA v u H Q := fun k hu p => by
    cases e1 : lvOf S d with
    | none => rw [e1] at p; exact p.elim
    | some xs =>
      rw [e1] at p
      obtain ⟨a, vs, ev, r1, hs⟩ := lvOf_ok rs h1 e1
      unfold repL at p
      simp only at p
      by_cases hz : -(2 ^ 63) ≤ k ∧ k < 2 ^ 63 ∧ xs.length * k.toNat ≤ sizeLine
      · rw [if_pos hz] at p
        exact .inr (.inr ⟨a, k, vs, ev, hu, r1, hz.1, hz.2.1, by rw [← hs.length]; exact hz.2.2, fun q hq => p am _ _ (Grow.upd hq) (rs.upd hq) (VR.lstNew rs (hs.replicate _) hq)⟩)
      · rw [if_neg hz] at p
        exact p.elim
  cases h2 with
  | int j =>
    cases h1 with
    | int i =>
      simp only [mulD] at p
      by_cases hz : FitMul i j
      · rw [if_pos hz] at p
        have q := p am (.int (i * j)) H .refl rs (.int _)
        rcases hz with hz | hz | hz
        · exact .inl ⟨i, j, rfl, rfl, .inl hz, q⟩
        · exact .inl ⟨i, j, rfl, rfl, .inr hz, q⟩
        · exact .inr (.inl ⟨i, j, rfl, rfl, hz, q⟩)
      · rw [if_neg hz] at p
        exact p.elim
    | _ => exact rep j rfl p
  | _ => cases h1 <;> exact p.elim
theorem qe_mul (ha : QE cl W X a f) (hb : QE cl W X b g) : QE cl W X (.BinOp a .Mult b pos) (e2 mulD f g) := qe_bin op_mulA ok_mul ha hb
theorem op_fdivA : OpR X (binaryOp .FloorDiv) (fun x y H Q => rI CDivW (fun i j => .int (i / j)) x y H Q ∨ rI CDivN (fun i j => .int (i.fdiv j)) x y H Q) := OpR.or op_fdivW op_fdivN
theorem qe_fdiv (ha : QE cl W X a f) (hb : QE cl W X b g) : QE cl W X (.BinOp a .FloorDiv b pos) (e2 fdivD f g) :=
  qe_bin op_fdivA (ok_intD (gv := fun i j => .int (fdivI i j)) (fun _ _ _ _ => .int _) fun i j H Q hc q => by
    rcases hc with hc | hc
    · refine .inl ⟨i, j, rfl, rfl, hc, ?_⟩
      have e : fdivI i j = i / j := if_pos hc.1
      have q' : Q (.int (fdivI i j)) H := q
      rw [e] at q'
      exact q'
    · refine .inr ⟨i, j, rfl, rfl, hc, ?_⟩
      have q' : Q (.int (fdivI i j)) H := q
      rw [← fdivI_eq i j hc.1] at q'
      exact q') ha hb
theorem qe_mod (ha : QE cl W X a f) (hb : QE cl W X b g) : QE cl W X (.BinOp a .Mod b pos) (e2 modD f g) :=
  qe_bin op_modN (ok_intD (gv := fun i j => .int (fmodI i j)) (fun _ _ _ _ => .int _) fun i j H Q hc q => ⟨i, j, rfl, rfl, hc, by
    have q' : Q (.int (fmodI i j)) H := q
    rw [← fmodI_eq i j hc] at q'
    exact q'⟩) ha hb
theorem op_powA : OpR X (binaryOp .Pow) (rI PowOk fun i j => .int (i ^ j.toNat)) := opI fun _ _ _ _ _ _ _ hc q => pow_int hc.1 hc.2 q
theorem qe_pow (ha : QE cl W X a f) (hb : QE cl W X b g) : QE cl W X (.BinOp a .Pow b pos) (e2 powD f g) :=
  qe_bin op_powA (ok_intD (gv := fun i j => .int (i ^ j.toNat)) (fun _ _ _ _ => .int _) fun i j H Q hc q => ⟨i, j, rfl, rfl, hc, q⟩) ha hb
noncomputable def negD (d : D) (S : Sto) : Res D := match d with
  | .int i => .ok (.int (-i)) S
  | _ => .bad
theorem qe_neg (ha : QE cl W X a f) : QE cl W X (.UnaryOp .USub a pos) (e1 negD f) := qe_un un_neg (fun W σ am S H d v Q rs h1 p => by
  cases h1 with
  | int i => exact ⟨i, rfl, p am _ H .refl rs (.int _)⟩
  | _ => exact p.elim) ha
theorem ok_ltD : Ok2 X.K cl (rI0 fun i j => .bl (decide (i < j))) ltD := ok_intD (gv := fun i j => .bl (decide (i < j))) (fun _ _ _ _ => .bl _) fun i j H Q _ q => ⟨i, j, rfl, rfl, q⟩
theorem ok_leD : Ok2 X.K cl (rI0 fun i j => .bl (decide (i ≤ j))) leD := ok_intD (gv := fun i j => .bl (decide (i ≤ j))) (fun _ _ _ _ => .bl _) fun i j H Q _ q => ⟨i, j, rfl, rfl, q⟩
theorem ok_gtD : Ok2 X.K cl (rI0 fun i j => .bl (decide (j < i))) gtD := ok_intD (gv := fun i j => .bl (decide (j < i))) (fun _ _ _ _ => .bl _) fun i j H Q _ q => ⟨i, j, rfl, rfl, q⟩
theorem ok_geD : Ok2 X.K cl (rI0 fun i j => .bl (decide (j ≤ i))) geD := ok_intD (gv := fun i j => .bl (decide (j ≤ i))) (fun _ _ _ _ => .bl _) fun i j H Q _ q => ⟨i, j, rfl, rfl, q⟩
theorem int_opt {C : Int → Int → Prop} [∀ i j, Decidable (C i j)] {p : Int → Int → Bool} (d e : D) (S : Sto) : ∃ o : Option Bool, intD C (fun i j => .bl (p i j)) d e S = (opt o S).bind fun b S => .ok (.bl b) S := by
  cases d with
  | int i =>
    cases e with
    | int j =>
      rw [intD_int]
      by_cases hc : C i j
      · exact ⟨some (p i j), by rw [if_pos hc]; rfl⟩
      · exact ⟨none, by rw [if_neg hc]; rfl⟩
    | _ => exact ⟨none, rfl⟩
  | _ => exact ⟨none, rfl⟩
theorem okb_le : Ok2b X.K cl (rI0 fun i j => .bl (decide (i ≤ j))) leD := ⟨ok_leD, fun d e S => int_opt d e S⟩
theorem qe_lt (ha : QE cl W X a f) (hb : QE cl W X b g) : QE cl W X (.Compare a [.Lt] [b] pos) (e2 ltD f g) := qe_cmp op_lt ok_ltD ha hb (nomark _)
theorem qe_gt (ha : QE cl W X a f) (hb : QE cl W X b g) : QE cl W X (.Compare a [.Gt] [b] pos) (e2 gtD f g) := qe_cmp op_gt ok_gtD ha hb (nomark _)
theorem qe_ge (ha : QE cl W X a f) (hb : QE cl W X b g) : QE cl W X (.Compare a [.GtE] [b] pos) (e2 geD f g) := qe_cmp op_ge ok_geD ha hb (nomark _)
theorem qt_lt (ha : QE cl W X a f) (hb : QE cl W X b g) : QT cl W X (.Compare a [.Lt] [b] pos) (eTB (e2 ltD f g)) := qt_cmp op_lt ok_ltD ha hb (nomark _)
theorem qt_gt (ha : QE cl W X a f) (hb : QE cl W X b g) : QT cl W X (.Compare a [.Gt] [b] pos) (eTB (e2 gtD f g)) := qt_cmp op_gt ok_gtD ha hb (nomark _)
theorem qe_lele (ha : QE cl W X a f) (hb : QE cl W X b g) (hc : QE cl W X c h) (hm : lastMarks [.LtE, .LtE] [b, c] = false := by with_unfolding_all rfl) : QE cl W X (.Compare a [.LtE, .LtE] [b, c] pos) (eCh leD leD f g h) := qe_chain op_le okb_le op_le ok_leD ha hb hc hm
theorem qe_lelt (ha : QE cl W X a f) (hb : QE cl W X b g) (hc : QE cl W X c h) (hm : lastMarks [.LtE, .Lt] [b, c] = false := by with_unfolding_all rfl) : QE cl W X (.Compare a [.LtE, .Lt] [b, c] pos) (eCh leD ltD f g h) := qe_chain op_le okb_le op_lt ok_ltD ha hb hc hm
theorem qt_lelt (ha : QE cl W X a f) (hb : QE cl W X b g) (hc : QE cl W X c h) (hm : lastMarks [.LtE, .Lt] [b, c] = false := by with_unfolding_all rfl) : QT cl W X (.Compare a [.LtE, .Lt] [b, c] pos) (eTB (eCh leD ltD f g h)) := qt_chain op_le okb_le op_lt ok_ltD ha hb hc hm
end
mutual
noncomputable def D.py : D → PyData
  | .non => .none
  | .bl b => .bool b
  | .int i => .int i
  | .str x => .str x
  | .tup xs => .tuple (pys xs)
  | .tpi xs => .tuple (pys xs)
  | .lst xs => .list (pys xs)
  | .fls xs => .list (pys xs)
  | .dct _ => .dict []
  | .ref _ => .dict []
noncomputable def pys : List D → List PyData
  | [] => []
  | x :: xs => x.py :: pys xs
end
/-- data at the top: a list of the store is read -/
noncomputable def pyOf (S : Sto) (d : D) : PyData := match d with
  | .ref k => match S[k]? with
    | some (.lst xs) => .list (pys xs)
    | _ => .dict []
  | d => d.py
section
variable {K : PySem.W.Frag} {cl : Str → Addr} {am : AM} {H : Hp} {S : Sto}
mutual
theorem VR.dp : ∀ {d : D} {v : V}, VR K am H d v → d.py.canLay0 = true → Dp K H v d.py
  | _, _, .non, _ => .non
  | _, _, .bl b, _ => .bl b
  | _, _, .int i, _ => .int i
  | _, _, .str x, _ => .str x
  | _, _, .tup h hs, q => .tup h.seq (VRs.dp hs (by simpa [D.py, PyData.canLay0] using q))
  | _, _, .tpi h hs, q => .tup (.inl h.1) (VRs.dp hs (by simpa [D.py, PyData.canLay0] using q))
  | _, _, .lst h n hs, q => .lst (.inl (.inl h)) (VRs.dp hs (by simpa [D.py, PyData.canLay0] using q))
  | _, _, .fls h hs, q => .lst h.seq (VRs.dp hs (by simpa [D.py, PyData.canLay0] using q))
  | _, _, .dct _ _ _, q => absurd q (by simp [D.py, PyData.canLay0])
  | _, _, .ref _, q => absurd q (by simp [D.py, PyData.canLay0])
theorem VRs.dp : ∀ {ds : List D} {vs : List V}, VRs K am H ds vs → PyData.canLayAll0 (pys ds) = true → DpAll K H vs (pys ds)
  | _, _, .nil, _ => .nil
  | _, _, .cons h t, q => by
    rename_i d v ds vs
    have q' : d.py.canLay0 = true ∧ PyData.canLayAll0 (pys ds) = true := by simpa [pys, PyData.canLayAll0] using q
    exact .cons (VR.dp h q'.1) (VRs.dp t q'.2)
end
theorem dpOf (r : RelS K cl am S H) {d : D} {v : V} (h : VR K am H d v) (q : (pyOf S d).canLay0 = true) : Dp K H v (pyOf S d) := by
  cases d with
  | ref k =>
    unfold pyOf at q ⊢
    simp only at q ⊢
    cases e : S[k]? with
    | none => rw [e] at q; exact absurd q (by simp [PyData.canLay0])
    | some o =>
      rw [e] at q
      cases o with
      | lst xs =>
        cases h with
        | ref h1 =>
          obtain ⟨vs, h2, h3⟩ := r.ob k _ _ e h1
          exact .lst (.inl (.inl h2)) (h3.dp (by simpa [PyData.canLay0] using q))
      | dct _ => exact absurd q (by simp [PyData.canLay0])
      | ins _ _ => exact absurd q (by simp [PyData.canLay0])
  | _ => exact h.dp q
end
noncomputable def eqB (S : Sto) (d e : D) : Bool := PyData.eqv (pyOf S d) (pyOf S e)
noncomputable def shp (S : Sto) (d : D) : Bool := SeqAt.shaped (pyOf S d)
noncomputable def eqD (neg : Bool) (d e : D) (S : Sto) : Res D := if shp S d = true ∧ shp S e = true then .ok (.bl (if neg = true then !eqB S d e else eqB S d e)) S else .bad
section
variable {cl : Str → Addr} {W : WX} {X : Cx} {a b c : Expr} {f g h : Ev D} {pos : Pos}
theorem ok_eq : Ok2 X.K cl (rEqD X.K) (eqD false) := fun W σ am S H d e v u Q rs h1 h2 p => by
  unfold eqD at p
  by_cases hc : shp S d = true ∧ shp S e = true
  · rw [if_pos hc] at p
    exact ⟨_, _, dpOf rs h1 (SeqAt.canLay_of_shaped hc.1), dpOf rs h2 (SeqAt.canLay_of_shaped hc.2), hc.1, hc.2, p am _ H .refl rs (.bl _)⟩
  · rw [if_neg hc] at p
    exact p.elim
theorem ok_ne : Ok2 X.K cl (rNeD X.K) (eqD true) := fun W σ am S H d e v u Q rs h1 h2 p => by
  unfold eqD at p
  by_cases hc : shp S d = true ∧ shp S e = true
  · rw [if_pos hc] at p
    exact ⟨_, _, dpOf rs h1 (SeqAt.canLay_of_shaped hc.1), dpOf rs h2 (SeqAt.canLay_of_shaped hc.2), hc.1, hc.2, p am _ H .refl rs (.bl _)⟩
  · rw [if_neg hc] at p
    exact p.elim
theorem qe_eq {k : Nat} (hr : Room k X.A) (ha : QE cl W X a f) (hb : QE cl W X b g) : QE cl W X (.Compare a [.Eq] [b] pos) (e2 (eqD false) f g) := qe_cmp (op_eqD hr.units) ok_eq ha hb (nomark _)
theorem qe_ne {k : Nat} (hr : Room k X.A) (ha : QE cl W X a f) (hb : QE cl W X b g) : QE cl W X (.Compare a [.NotEq] [b] pos) (e2 (eqD true) f g) := qe_cmp (op_neD hr.units) ok_ne ha hb (nomark _)
theorem qt_eq {k : Nat} (hr : Room k X.A) (ha : QE cl W X a f) (hb : QE cl W X b g) : QT cl W X (.Compare a [.Eq] [b] pos) (eTB (e2 (eqD false) f g)) := qt_cmp (op_eqD hr.units) ok_eq ha hb (nomark _)
theorem qt_ne {k : Nat} (hr : Room k X.A) (ha : QE cl W X a f) (hb : QE cl W X b g) : QT cl W X (.Compare a [.NotEq] [b] pos) (eTB (e2 (eqD true) f g)) := qt_cmp (op_neD hr.units) ok_ne ha hb (nomark _)
/-- is None -/
noncomputable def D.isN : D → Bool
  | .non => true
  | _ => false
noncomputable def isND (neg : Bool) (d : D) (S : Sto) : Res D := .ok (.bl (if neg = true then !d.isN else d.isN)) S
theorem isN_eq {K : PySem.W.Frag} {am : AM} {H : Hp} {d : D} {v : V} (h : VR K am H d v) : decide (v = .non) = d.isN := by
  cases h <;> rfl
theorem imp_isN : ∀ σ H Q, TD X.K cl W (VR X.K) (e1 (isND false) f) σ H Q → tIsN (TD X.K cl W (VR X.K) f) σ H Q := fun σ H Q ⟨am, e, S, rs, re, p⟩ =>
  ⟨am, e, S, rs, re, (Post.step p).imp fun x H1 ⟨am1, S1, d1, _, g1, rs1, rv1, p1⟩ => by
    rw [isN_eq rv1]
    exact p1 am1 _ H1 .refl rs1 (.bl _)⟩
theorem imp_notN : ∀ σ H Q, TD X.K cl W (VR X.K) (e1 (isND true) f) σ H Q → tNotN (TD X.K cl W (VR X.K) f) σ H Q := fun σ H Q ⟨am, e, S, rs, re, p⟩ =>
  ⟨am, e, S, rs, re, (Post.step p).imp fun x H1 ⟨am1, S1, d1, _, g1, rs1, rv1, p1⟩ => by
    rw [isN_eq rv1]
    exact p1 am1 _ H1 .refl rs1 (.bl _)⟩
theorem qt_isN {j pos'} (ha : QE cl W X a f) : QT cl W X (.Compare a [.Is] [.Constant .none j pos'] pos) (eTB (e1 (isND false) f)) := (pt_cmp (pc_isN ha)).imp fun σ H Q t => imp_isN _ _ _ (imp_TB _ _ _ t)
theorem qt_notN {j pos'} (ha : QE cl W X a f) : QT cl W X (.Compare a [.IsNot] [.Constant .none j pos'] pos) (eTB (e1 (isND true) f)) := (pt_cmp (pc_notN ha)).imp fun σ H Q t => imp_notN _ _ _ (imp_TB _ _ _ t)
end
noncomputable def tAndD (f g : Ev Bool) : Ev Bool := fun e S => (f e S).bind fun b S => if b = true then g e S else .ok false S
noncomputable def tOrD (f g : Ev Bool) : Ev Bool := fun e S => (f e S).bind fun b S => if b = true then .ok true S else g e S
noncomputable def tNotD (f : Ev Bool) : Ev Bool := fun e S => (f e S).bind fun b S => .ok (!b) S
noncomputable def eAndD (f g : Ev D) : Ev D := fun e S => (f e S).bind fun d S => (toB d S).bind fun b S => if b = true then g e S else .ok (.bl false) S
noncomputable def eOrD (f g : Ev D) : Ev D := fun e S => (f e S).bind fun d S => (toB d S).bind fun b S => if b = true then .ok (.bl true) S else g e S
noncomputable def eNotD (f : Ev D) : Ev D := fun e S => (f e S).bind fun d S => (toB d S).bind fun b S => .ok (.bl (!b)) S
noncomputable def eIf (t : Ev Bool) (f g : Ev D) : Ev D := fun e S => (t e S).bind fun b S => if b = true then f e S else g e S
section
variable {cl : Str → Addr} {W : WX} {X : Cx} {a b c : Expr} {rest : List Expr} {f g : Ev D} {s t : Ev Bool} {pos : Pos}
theorem qw_and1 (ha : QT cl W X a s) : QW cl W X (.BoolOp .And [a] pos) s := pw_and1 ha
theorem qw_or1 (ha : QT cl W X a s) : QW cl W X (.BoolOp .Or [a] pos) s := pw_or1 ha
theorem qw_and (ha : QT cl W X a s) (hb : QW cl W X (.BoolOp .And (b :: rest) pos) t) : QW cl W X (.BoolOp .And (a :: b :: rest) pos) (tAndD s t) := (pw_and ha hb).imp fun σ H Q ⟨am, e, S, rs, re, p⟩ =>
  ⟨am, e, S, rs, re, (Post.step p).imp fun k H1 ⟨am1, S1, k', _, g1, rs1, rk, p1⟩ => by
    have rk : k' = k := rk
    subst rk
    cases k' with
    | true => exact ⟨am1, e, S1, rs1, re.mono g1, p1⟩
    | false => exact p1 am1 _ H1 .refl rs1 rfl⟩
theorem qw_or (ha : QT cl W X a s) (hb : QW cl W X (.BoolOp .Or (b :: rest) pos) t) : QW cl W X (.BoolOp .Or (a :: b :: rest) pos) (tOrD s t) := (pw_or ha hb).imp fun σ H Q ⟨am, e, S, rs, re, p⟩ =>
  ⟨am, e, S, rs, re, (Post.step p).imp fun k H1 ⟨am1, S1, k', _, g1, rs1, rk, p1⟩ => by
    have rk : k' = k := rk
    subst rk
    cases k' with
    | false => exact ⟨am1, e, S1, rs1, re.mono g1, p1⟩
    | true => exact p1 am1 _ H1 .refl rs1 rfl⟩
theorem qt_not (ha : QT cl W X a s) : QT cl W X (.UnaryOp .Not a pos) (tNotD s) := (pt_not ha).imp fun σ H Q ⟨am, e, S, rs, re, p⟩ =>
  ⟨am, e, S, rs, re, (Post.step p).imp fun k H1 ⟨am1, S1, k', _, g1, rs1, rk, p1⟩ => by
    have rk : k' = k := rk
    subst rk
    exact p1 am1 _ H1 .refl rs1 rfl⟩
theorem qe_one {op} (ha : QE cl W X a f) : QE cl W X (.BoolOp op [a] pos) f := pe_one ha
theorem step_b {σ : L2.St} {α : Type} {R : AM → Hp → D → V → Prop} {am : AM} {H : Hp} {S : Sto} {k : Bool → Sto → Res D} {d : D} {x : V} {Q : VK} (rv : VR X.K am H d x) (p : Post X.K cl W σ R am H ((toB d S).bind k) Q) : ∃ b, d = .bl b ∧ x = .bl b ∧ Post X.K cl W σ R am H (k b S) Q := by
  cases rv with
  | bl b => exact ⟨b, rfl, rfl, p⟩
  | _ => exact p.elim
theorem qe_and (ha : QE cl W X a f) (hb : QE cl W X (.BoolOp .And (b :: rest) pos) g) : QE cl W X (.BoolOp .And (a :: b :: rest) pos) (eAndD f g) := (pe_and ha hb).imp fun σ H Q ⟨am, e, S, rs, re, p⟩ =>
  ⟨am, e, S, rs, re, (Post.step p).imp fun x H1 ⟨am1, S1, d, _, g1, rs1, rv, p1⟩ => by
    obtain ⟨k, _, ex, p2⟩ := step_b (α := D) rv p1
    refine ⟨k, ex, ?_⟩
    cases k with
    | true => exact ⟨am1, e, S1, rs1, re.mono g1, p2⟩
    | false => exact p2 am1 _ H1 .refl rs1 (.bl _)⟩
theorem qe_or (ha : QE cl W X a f) (hb : QE cl W X (.BoolOp .Or (b :: rest) pos) g) : QE cl W X (.BoolOp .Or (a :: b :: rest) pos) (eOrD f g) := (pe_or ha hb).imp fun σ H Q ⟨am, e, S, rs, re, p⟩ =>
  ⟨am, e, S, rs, re, (Post.step p).imp fun x H1 ⟨am1, S1, d, _, g1, rs1, rv, p1⟩ => by
    obtain ⟨k, _, ex, p2⟩ := step_b (α := D) rv p1
    refine ⟨k, ex, ?_⟩
    cases k with
    | false => exact ⟨am1, e, S1, rs1, re.mono g1, p2⟩
    | true => exact p2 am1 _ H1 .refl rs1 (.bl _)⟩
theorem qe_not (ha : QE cl W X a f) : QE cl W X (.UnaryOp .Not a pos) (eNotD f) := (pe_not ha).imp fun σ H Q ⟨am, e, S, rs, re, p⟩ =>
  ⟨am, e, S, rs, re, (Post.step p).imp fun x H1 ⟨am1, S1, d, _, g1, rs1, rv, p1⟩ => by
    obtain ⟨k, _, ex, p2⟩ := step_b (α := D) rv p1
    exact ⟨k, ex, p2 am1 _ H1 .refl rs1 (.bl _)⟩⟩
theorem qe_if (hc : QT cl W X c s) (ha : QE cl W X a f) (hb : QE cl W X b g) : QE cl W X (.IfExp c a b pos) (eIf s f g) := (pe_ifExp hc ha hb).imp fun σ H Q ⟨am, e, S, rs, re, p⟩ =>
  ⟨am, e, S, rs, re, (Post.step p).imp fun k H1 ⟨am1, S1, k', _, g1, rs1, rk, p1⟩ => by
    have rk : k' = k := rk
    subst rk
    cases k' with
    | true => exact ⟨am1, e, S1, rs1, re.mono g1, p1⟩
    | false => exact ⟨am1, e, S1, rs1, re.mono g1, p1⟩⟩
/-- a value's truth -/
noncomputable def truD (d : D) (S : Sto) : Res Bool := match d with
  | .non => .ok false S
  | .bl b => .ok b S
  | .int i => .ok (i != 0) S
  | .str x => if x.length ≤ sizeLine then .ok ((x.length : Int) != 0) S else .bad
  | .tup xs => .ok (!xs.isEmpty) S
  | d => match lsOf S d with
    | some xs => .ok (!xs.isEmpty) S
    | none => .bad
noncomputable def eTr (f : Ev D) : Ev Bool := fun e S => (f e S).bind truD
theorem VRs.isEmpty {K : PySem.W.Frag} {am : AM} {H : Hp} {ds : List D} {vs : List V} (h : VRs K am H ds vs) : vs.isEmpty = ds.isEmpty := by
  cases h <;> rfl
theorem tru_ok' {am : AM} {S : Sto} {H : Hp} {d : D} {x : V} {σ : L2.St} {Q : Bool → Hp → Prop} (rs : RelS X.K cl am S H) (rv : VR X.K am H d x) (p : Post X.K cl W σ RB am H (truD d S) Q) : ∃ k, TruV X.K x H k ∧ Q k H := by
  have ls : Post X.K cl W σ RB am H (match lsOf S d with | some xs => .ok (!xs.isEmpty) S | none => .bad) Q → ∃ k, TruV X.K x H k ∧ Q k H := fun p => by
    cases e : lsOf S d with
    | none => rw [e] at p; exact p.elim
    | some xs =>
      rw [e] at p
      obtain ⟨a, vs, ev, r1, hs⟩ := lsOf_ok rs rv e
      subst ev
      exact ⟨!xs.isEmpty, .inl ⟨vs, r1, by rw [hs.isEmpty]⟩, p am _ H .refl rs rfl⟩
  cases rv with
  | non => exact ⟨false, rfl, p am _ H .refl rs rfl⟩
  | bl b => exact ⟨b, rfl, p am _ H .refl rs rfl⟩
  | int i => exact ⟨(i != 0), rfl, p am _ H .refl rs rfl⟩
  | str y =>
    simp only [truD] at p
    by_cases hz : y.length ≤ sizeLine
    · rw [if_pos hz] at p
      exact ⟨((y.length : Int) != 0), ⟨hz, rfl⟩, p am _ H .refl rs rfl⟩
    · rw [if_neg hz] at p
      exact p.elim
  | tup h hs => exact ⟨_, .inr (.inl ⟨_, h.seq, rfl⟩), by rw [hs.isEmpty]; exact p am _ H .refl rs rfl⟩
  | lst _ _ _ => exact ls p
  | fls _ _ => exact ls p
  | ref _ => exact ls p
  | dct _ _ _ => exact p.elim
  | tpi _ _ => exact p.elim
theorem qt_val (ha : QE cl W X a f) (he : ∀ whole, isTrue a X.env whole = (do let v ← whole; standAt a.pos; holding [v] (truthy v)) := by intro _; rfl) : QT cl W X a (eTr f) := (pt_truth ha he).imp fun σ H Q ⟨am, e, S, rs, re, p⟩ =>
  ⟨am, e, S, rs, re, (Post.step p).imp fun x H1 ⟨am1, S1, d, _, g1, rs1, rv, p1⟩ => tru_ok' rs1 rv p1⟩
end
noncomputable def eArgs : List (Ev D) → Ev (List D)
  | [] => fun _ S => .ok [] S
  | f :: fs => fun e S => (f e S).bind fun x S => (eArgs fs e S).bind fun xs S => .ok (x :: xs) S
theorem eArgs_len : ∀ {fs : List (Ev D)} {e : En} {S S' : Sto} {xs : List D}, eArgs fs e S = .ok xs S' → xs.length = fs.length
  | [], _, _, _, _, h => by cases h; rfl
  | f :: fs, e, S, S', xs, h => by
    unfold eArgs at h
    cases e1 : f e S with
    | ok x S1 =>
      rw [e1, Res.bind_ok] at h
      cases e2 : eArgs fs e S1 with
      | ok ys S2 =>
        rw [e2, Res.bind_ok] at h
        cases h
        rw [List.length_cons, List.length_cons, eArgs_len e2]
      | exc c S2 => rw [e2] at h; cases h
      | bad => rw [e2] at h; cases h
    | exc c S1 => rw [e1] at h; cases h
    | bad => rw [e1] at h; cases h
noncomputable def eTup (fs : List (Ev D)) : Ev D := fun e S => (eArgs fs e S).bind fun xs S => .ok (.tup xs) S
noncomputable def eCall (op : List D → Sto → Res D) (fs : List (Ev D)) : Ev D := fun e S => (eArgs fs e S).bind op
noncomputable def OkN (K : PySem.W.Frag) (cl : Str → Addr) (r : List V → Hp → VK → Prop) (op : List D → Sto → Res D) : Prop :=
  ∀ (W : WX) (σ : L2.St) (am : AM) (S : Sto) (H : Hp) (ds : List D) (vs : List V) (Q : VK), RelS K cl am S H → VRs K am H ds vs → Post K cl W σ (VR K) am H (op ds S) Q → r vs H Q
theorem OkN.or {K : PySem.W.Frag} {cl : Str → Addr} {r r' : List V → Hp → VK → Prop} {op op' : List D → Sto → Res D} (h : OkN K cl r op) (h' : OkN K cl r' op') (c : List D → Sto → Bool) : OkN K cl (fun vs H Q => r vs H Q ∨ r' vs H Q) (fun ds S => if c ds S = true then op ds S else op' ds S) :=
  fun W σ am S H ds vs Q rs rv p => by
    by_cases hc : c ds S = true
    · simp only [hc, if_true] at p
      exact .inl (h W σ am S H ds vs Q rs rv p)
    · simp only [hc] at p
      exact .inr (h' W σ am S H ds vs Q rs rv p)
section
variable {cl : Str → Addr} {W : WX} {X : Cx} {a b c : Expr} {es : List Expr} {f g : Ev D} {fs : List (Ev D)} {pos : Pos}
theorem qa_nil : QA cl W X [] (eArgs []) := pa_nil.imp fun σ H Q ⟨am, e, S, rs, re, p⟩ => p am [] H .refl rs .nil
theorem qa_cons (ha : QE cl W X a f) (hr : QA cl W X es (eArgs fs)) (hs : starEach (a :: es) X.env = (false, eval a X.env) :: starEach es X.env := by rfl) : QA cl W X (a :: es) (eArgs (f :: fs)) := (pa_cons ha hr hs).imp fun σ H Q ⟨am, e, S, rs, re, p⟩ =>
  ⟨am, e, S, rs, re, (Post.step p).imp fun x H1 ⟨am1, S1, d, _, g1, rs1, rv, p1⟩ =>
    ⟨am1, e, S1, rs1, re.mono g1, (Post.step p1).imp fun xs H2 ⟨am2, S2, ds, _, g2, rs2, rvs, p2⟩ => p2 am2 _ H2 .refl rs2 (.cons (rv.mono g2) rvs)⟩⟩
theorem qe_tup {x1} (h : QA cl W X es (eArgs fs)) (hn : fs.length ≤ 1000 := by decide) : QE cl W X (.Tuple es x1 pos) (eTup fs) := (pe_tupF h).imp fun σ H Q ⟨am, e, S, rs, re, p⟩ =>
  ⟨am, e, S, rs, re, (Post.step p).imp fun xs H1 ⟨am1, S1, ds, ee, g1, rs1, rvs, p1⟩ =>
    ⟨by rw [← rvs.length, eArgs_len ee]; exact Nat.le_trans hn (by decide), fun q ob hq hd => p1 am1 _ _ (Grow.upd hq) (rs1.upd hq) (VR.tupNew rs1 rvs hq hd)⟩⟩
theorem imp_call {r : List V → Hp → VK → Prop} {op : List D → Sto → Res D} (ok : OkN X.K cl r op) : ∀ σ H Q, TD X.K cl W (VR X.K) (eCall op fs) σ H Q → tCB r (TD X.K cl W (VRs X.K) (eArgs fs)) σ H Q := fun σ H Q ⟨am, e, S, rs, re, p⟩ =>
  ⟨am, e, S, rs, re, (Post.step p).imp fun xs H1 ⟨am1, S1, ds, ee, g1, rs1, rvs, p1⟩ => ok W σ am1 S1 H1 ds xs Q rs1 rvs p1⟩
variable {x : Str} {p : Pos}
theorem qe_callB {id : String} {r : List V → Hp → VK → Prop} {op : List D → Sto → Res D} (hc : CallR X (.builtin id) r) (ok : OkN X.K cl r op) (hg : Gl X x) (hm : X.mg x = none) (hv : bootBuiltins x = some (.builtin id)) (ha : QA cl W X (a :: es) (eArgs fs)) (hn : x ≠ "__name__" := by decide) (hdb : (x == ("__debug__" : Str)) = false := by decide)
    (he : starEach (a :: es) X.env = (false, eval a X.env) :: starEach es X.env := by rfl) (hpl : (backTo pos (starEach es X.env)).any (·.1) = false := by rfl) : QE cl W X (.Call (.Name x p) (a :: es) [] pos) (eCall op fs) :=
  (pe_callB hc hg hm hv ha hn hdb he hpl).imp (imp_call ok)
theorem qe_callT {T : String} {r : List V → Hp → VK → Prop} {op : List D → Sto → Res D} (hc : CallR X (.type T) r) (ok : OkN X.K cl r op) (hg : Gl X x) (hm : X.mg x = none) (hv : bootBuiltins x = some (.type T)) (ha : QA cl W X (a :: es) (eArgs fs)) (hn : x ≠ "__name__" := by decide) (hdb : (x == ("__debug__" : Str)) = false := by decide)
    (he : starEach (a :: es) X.env = (false, eval a X.env) :: starEach es X.env := by rfl) (hpl : (backTo pos (starEach es X.env)).any (·.1) = false := by rfl) : QE cl W X (.Call (.Name x p) (a :: es) [] pos) (eCall op fs) :=
  (pe_callTy hc hg hm hv ha hn hdb he hpl).imp (imp_call ok)
end
/-- the sequence that a value is -/
noncomputable def sqOf (S : Sto) : D → Option (List D)
  | .tup xs => some xs
  | d => lsOf S d
@[simp] theorem sqOf_tup {S : Sto} {xs : List D} : sqOf S (.tup xs) = some xs := id rfl
@[simp] theorem sqOf_lst {S : Sto} {xs : List D} : sqOf S (.lst xs) = some xs := id rfl
@[simp] theorem sqOf_fls {S : Sto} {xs : List D} : sqOf S (.fls xs) = some xs := id rfl
@[simp] theorem sqOf_ref {S : Sto} {k : Nat} {xs : List D} (h : S[k]? = some (.lst xs)) : sqOf S (.ref k) = some xs := lsOf_ref h
theorem sqOf_ok {K : PySem.W.Frag} {cl : Str → Addr} {am : AM} {H : Hp} {S : Sto} {d : D} {v : V} (r : RelS K cl am S H) (h : VR K am H d v) {xs : List D} (e : sqOf S d = some xs) :
    ∃ a vs, v = .ref a ∧ (SqL K H a vs ∨ SqT K H a vs) ∧ VRs K am H xs vs := by
  cases h with
  | tup h hs =>
    cases e
    exact ⟨_, _, rfl, .inr h.seq, hs⟩
  | lst h1 h2 h3 =>
    obtain ⟨a, vs, ev, r1, hs⟩ := lsOf_ok r (.lst h1 h2 h3) e
    exact ⟨a, vs, ev, .inl r1, hs⟩
  | fls h1 h3 =>
    obtain ⟨a, vs, ev, r1, hs⟩ := lsOf_ok r (.fls h1 h3) e
    exact ⟨a, vs, ev, .inl r1, hs⟩
  | ref h1 =>
    obtain ⟨a, vs, ev, r1, hs⟩ := lsOf_ok r (.ref h1) e
    exact ⟨a, vs, ev, .inl r1, hs⟩
  | _ => cases e
end Pu
set_option Elab.async false
set_option linter.all false
set_option maxRecDepth 100000
namespace Pu
open PySem PySem.Spec PyProof.Rows L2
noncomputable def PostN (K : PySem.W.Frag) (cl : Str → Addr) (W : WX) (σ : L2.St) (am : AM) (H : Hp) (r : Res DO) (Q : VK) : Prop := match r with
  | .ok o S => ∀ (am' : AM) (a : Addr) (H' : Hp), Grow am am' H H' → RelS K cl am' S H' → H a = none → a ∈ am'.no → a ∉ am'.ad → OR K cl am' H' a o → Q (.ref a) H'
  | .exc c S => ∀ am' H', Grow am am' H H' → RelS K cl am' S H' → W (.ref (cl c)) none σ H'
  | .bad => False
noncomputable def TDN (K : PySem.W.Frag) (cl : Str → Addr) (W : WX) (f : Ev DO) : TE := fun σ H Q => ∃ am e S, RelS K cl am S H ∧ RelE K am H e σ ∧ PostN K cl W σ am H (f e S) Q
noncomputable abbrev QN (cl : Str → Addr) (W : WX) (X : Cx) (e : Expr) (f : Ev DO) : Prop := PE X e (TDN X.K cl W f)
noncomputable def anoD (o : DO) (S : Sto) : Res D := match o with
  | .lst xs => .ok (.lst xs) S
  | .dct xs => .ok (.dct xs) S
  | .ins _ _ => .bad
@[simp] theorem anoD_lst {xs : List D} {S : Sto} : anoD (.lst xs) S = .ok (.lst xs) S := id rfl
@[simp] theorem anoD_dct {xs : List (Key × D)} {S : Sto} : anoD (.dct xs) S = .ok (.dct xs) S := id rfl
/-- .. kept by its data -/
noncomputable def eAno (f : Ev DO) : Ev D := fun e S => (f e S).bind anoD
/-- .. kept in the store -/
noncomputable def eNew (f : Ev DO) : Ev D := fun e S => (f e S).bind fun o S => .ok (.ref S.length) (S ++ [o])
section
variable {K : PySem.W.Frag} {cl : Str → Addr} {W : WX} {σ : L2.St} {am am1 : AM} {H H1 : Hp} {S : Sto} {Q : VK} {f : Ev DO}
theorem PostN.step {α β : Type} {R : AM → Hp → α → β → Prop} {r : Res α} {k : α → Sto → Res DO} (p : PostN K cl W σ am H (r.bind k) Q) :
    Post K cl W σ R am H r (fun b H1 => ∃ am1 S1 a, r = .ok a S1 ∧ Grow am am1 H H1 ∧ RelS K cl am1 S1 H1 ∧ R am1 H1 a b ∧ PostN K cl W σ am H (k a S1) Q) := by
  cases r with
  | ok a S => exact fun am1 b H1 g rs rb => ⟨am1, S, a, rfl, g, rs, rb, p⟩
  | exc c S => exact p
  | bad => exact p
theorem Grow.unborn (g : Grow am am1 H H1) (rs : RelS K cl am1 S H1) {p : Addr} (h : H1 p = none) : H p = none := by
  cases q : H p with
  | none => rfl
  | some o =>
    by_cases hp : p ∈ am.ad
    · obtain ⟨r, e⟩ := g.pre
      have : p ∈ am1.ad := by rw [e]; exact List.mem_append_left _ hp
      exact absurd h (by obtain ⟨u, e2⟩ := rs.there p (am1.sub p this); rw [e2]; simp)
    · rw [g.keep p o q hp] at h
      cases h
/-- the object is laid at last -/
theorem PostN.laid {o : DO} {ov : HO} {q : Addr} (p : PostN K cl W σ am H (.ok o S) Q) (g : Grow am am1 H H1) (rs : RelS K cl am1 S H1) (hq : H1 q = none) (ho : OR K cl (am1.resv q) (upd H1 q ov) q o) : Q (.ref q) (upd H1 q ov) :=
  p (am1.resv q) q _ (g.trans (Grow.resv hq)) (rs.resv hq) (g.unborn rs hq) List.mem_cons_self (fun z => (rs.new hq) (am1.sub q z)) ho
theorem imp_ano : ∀ σ H Q, TD K cl W (VR K) (eAno f) σ H Q → TDN K cl W f σ H Q := fun σ H Q ⟨am, e, S, rs, re, p⟩ => by
  refine ⟨am, e, S, rs, re, ?_⟩
  unfold eAno at p
  cases q : f e S with
  | ok o S1 =>
    rw [q] at p
    intro am' a H' g rs' ha hn hd ho
    cases o with
    | lst xs =>
      obtain ⟨vs, h1, h2⟩ := ho
      exact p (am'.free a hd) (.ref a) H' (g.free hd (rs.new ha)) (rs'.free hd) (.lst h1 (AM.free_not hd) (h2.ext (Ext.free hd)))
    | dct xs =>
      obtain ⟨vs, h1, h2⟩ := ho
      exact p (am'.free a hd) (.ref a) H' (g.free hd (rs.new ha)) (rs'.free hd) (.dct h1 (AM.free_not hd) (h2.ext (Ext.free hd)))
    | ins c fs => exact p.elim
  | exc c S1 => rw [q] at p; exact p
  | bad => rw [q] at p; exact p.elim
theorem imp_new : ∀ σ H Q, TD K cl W (VR K) (eNew f) σ H Q → TDN K cl W f σ H Q := fun σ H Q ⟨am, e, S, rs, re, p⟩ => by
  refine ⟨am, e, S, rs, re, ?_⟩
  unfold eNew at p
  cases q : f e S with
  | ok o S1 =>
    rw [q] at p
    intro am' a H' g rs' ha hn hd ho
    refine p (am'.push a hn) (.ref a) H' (g.push hn ha) (rs'.push hn hd ho) (.ref ?_)
    show (am'.ad ++ [a])[S1.length]? = some a
    rw [← rs'.len, List.getElem?_append_right (Nat.le_refl _), Nat.sub_self]
    rfl
  | exc c S1 => rw [q] at p; exact p
  | bad => rw [q] at p; exact p.elim
end
section
variable {cl : Str → Addr} {W : WX} {X : Cx} {a b c : Expr} {es : List Expr} {f g h : Ev D} {fs : List (Ev D)} {fn : Ev DO} {pos : Pos}
theorem qe_ano (h : QN cl W X a fn) : QE cl W X a (eAno fn) := h.imp imp_ano
theorem qe_new (h : QN cl W X a fn) : QE cl W X a (eNew fn) := h.imp imp_new
noncomputable def nLst (fs : List (Ev D)) : Ev DO := fun e S => (eArgs fs e S).bind fun xs S => .ok (.lst xs) S
theorem qn_lst (h : QA cl W X es (eArgs fs)) (hn : fs.length ≤ 1000 := by decide) : QN cl W X (.List es pos) (nLst fs) := (pe_lst h).imp fun σ H Q ⟨am, e, S, rs, re, p⟩ =>
  ⟨am, e, S, rs, re, (PostN.step p).imp fun xs H1 ⟨am1, S1, ds, ee, g1, rs1, rvs, p1⟩ =>
    ⟨by rw [← rvs.length, eArgs_len ee]; exact Nat.le_trans hn (by decide), fun q hq => p1.laid g1 rs1 hq ⟨xs, upd_same, rvs.mono (Grow.resv hq)⟩⟩⟩
noncomputable def nDct0 : Ev DO := fun _ S => .ok (.dct []) S
end
noncomputable def sSet (i : Nat) (f : Ev D) : Stm := fun e S => (f e S).stm e fun d S => .next (e.set i (some d)) S
noncomputable def sRet (f : Ev D) : Stm := fun e S => (f e S).stm e fun d S => .ret d S
noncomputable def sExpr (f : Ev D) : Stm := fun e S => (f e S).stm e fun _ S => .next e S
noncomputable def sNext : Stm := fun e S => .next e S
noncomputable def sBrk : Stm := fun e S => .brk e S
noncomputable def sSeq (a b : Stm) : Stm := fun e S => (a e S).seq b
noncomputable def sIf (t : Ev Bool) (a b : Stm) : Stm := fun e S => (t e S).stm e fun k S => if k = true then a e S else b e S
/-- slots that nobody reads any more -/
noncomputable def sFgt (vs : List Nat) (a : Stm) : Stm := fun e S => match a e S with
  | .next e S => .next (wipeE e vs) S
  | r => r
section
variable {cl : Str → Addr} {W : WX} {X : Cx} {st : Stmt} {rest sa sb : List Stmt} {a b c : Expr} {f g : Ev D} {t : Ev Bool} {u v : Stm} {pos : Pos}
theorem PostS.imp {K : PySem.W.Frag} {am : AM} {H : Hp} {r : SRes} {E E' : Ends} (p : PostS K cl W am H r E) (h1 : ∀ σ H', E.nx σ H' → E'.nx σ H') (h2 : ∀ v H', E.rt v H' → E'.rt v H') (h3 : ∀ σ H', E.bk σ H' → E'.bk σ H') (h4 : ∀ σ H', E.ct σ H' → E'.ct σ H') : PostS K cl W am H r E' := by
  cases r with
  | next e S => exact fun am' σ H' g rs re => h1 _ _ (p am' σ H' g rs re)
  | brk e S => exact fun am' σ H' g rs re => h3 _ _ (p am' σ H' g rs re)
  | cnt e S => exact fun am' σ H' g rs re => h4 _ _ (p am' σ H' g rs re)
  | ret d S => exact fun am' v H' g rs rv => h2 _ _ (p am' v H' g rs rv)
  | exc c e S => exact p
  | bad => exact p
theorem qs_set {i : Nat} {x : Str} {pos' : Pos} (hN : X.N.Nodup) (hi : X.N[i]? = some x) (hx : Loc X.env.scope x) (he : QE cl W X a f) (hs : swapsWith a (some (.Name x pos')) pos.line X.env = pure false := by rfl) (hf : X.fn x = true ∨ X.env.scope.names.lookup x = some .local := by first | exact .inl rfl | exact .inr rfl | assumption) :
    QS cl W X (.Assign [.Name x pos'] a pos) (sSet i f) := (ps_set hN hi hx he hs hf).imp fun E σ H ⟨am, e, S, rs, re, p⟩ =>
  ⟨am, e, S, rs, re, (PostS.step re p).imp fun x H1 ⟨am1, S1, d, _, g1, rs1, rv, p1⟩ => p1 am1 _ H1 .refl rs1 ((re.mono g1).set i rv)⟩
theorem qs_ret (he : QE cl W X a f) : QS cl W X (.Return (some a) pos) (sRet f) := (ps_ret he).imp fun E σ H ⟨am, e, S, rs, re, p⟩ =>
  ⟨am, e, S, rs, re, (PostS.step re p).imp fun x H1 ⟨am1, S1, d, _, g1, rs1, rv, p1⟩ => p1 am1 _ H1 .refl rs1 rv⟩
theorem qs_expr (he : QE cl W X a f) (hs : swapsWith a none pos.line X.env = pure false := by rfl) : QS cl W X (.Expr a pos) (sExpr f) := (ps_expr he hs).imp fun E σ H ⟨am, e, S, rs, re, p⟩ =>
  ⟨am, e, S, rs, re, (PostS.step re p).imp fun x H1 ⟨am1, S1, d, _, g1, rs1, rv, p1⟩ => p1 am1 _ H1 .refl rs1 (re.mono g1)⟩
theorem qb_nil : QB cl W X [] sNext := pss_nil.imp fun E σ H ⟨am, e, S, rs, re, p⟩ => p am σ H .refl rs re
theorem qb_one (h : QS cl W X st u) : QB cl W X [st] u := pss_one h
theorem qb_cons (h1 : QS cl W X st u) (h2 : QB cl W X rest v) : QB cl W X (st :: rest) (sSeq u v) := (pss_cons h1 h2).imp fun E σ H ⟨am, e, S, rs, re, p⟩ => by
  refine ⟨am, e, S, rs, re, ?_⟩
  have p : PostS X.K cl W am H ((u e S).seq v) E := p
  cases q : u e S with
  | next e1 S1 =>
    rw [q] at p
    exact fun am1 σ1 H1 g1 rs1 re1 => ⟨am1, e1, S1, rs1, re1, PostS.grow g1 p⟩
  | brk e1 S1 => rw [q] at p; exact p
  | cnt e1 S1 => rw [q] at p; exact p
  | ret d S1 => rw [q] at p; exact p
  | exc c e1 S1 => rw [q] at p; exact p
  | bad => rw [q] at p; exact p
theorem qs_if (hc : QT cl W X c t) (ha : QB cl W X sa u) (hb : QB cl W X sb v) : QS cl W X (.If c sa sb pos) (sIf t u v) := (ps_if hc ha hb).imp fun E σ H ⟨am, e, S, rs, re, p⟩ =>
  ⟨am, e, S, rs, re, (PostS.step re p).imp fun k H1 ⟨am1, S1, k', _, g1, rs1, rk, p1⟩ => by
    have rk : k' = k := rk
    subst rk
    cases k' with
    | true => exact ⟨am1, e, S1, rs1, re.mono g1, p1⟩
    | false => exact ⟨am1, e, S1, rs1, re.mono g1, p1⟩⟩
theorem PostS.fgt {K : PySem.W.Frag} {am : AM} {H : Hp} {E : Ends} {vs : List Nat} {e : En} {S : Sto} (p : PostS K cl W am H (sFgt vs u e S) E) : PostS K cl W am H (u e S) E := by
  unfold sFgt at p
  cases q : u e S with
  | next e1 S1 => rw [q] at p; exact fun am' σ H' g rs re => p am' σ H' g rs (re.forget vs)
  | brk e1 S1 => rw [q] at p; exact p
  | cnt e1 S1 => rw [q] at p; exact p
  | ret d S1 => rw [q] at p; exact p
  | exc c e1 S1 => rw [q] at p; exact p
  | bad => rw [q] at p; exact p
theorem qs_fgt (vs : List Nat) (h : QS cl W X st u) : QS cl W X st (sFgt vs u) := h.imp fun E σ H ⟨am, e, S, rs, re, p⟩ => ⟨am, e, S, rs, re, PostS.fgt p⟩
end
inductive Tg where
  | nm (i : Nat) | tp (ts : List Tg)
mutual
noncomputable def bindT : Tg → D → En → Option En
  | .nm i, d, e => some (e.set i (some d))
  | .tp ts, .tup ds, e => bindTs ts ds e
  | .tp ts, .tpi ds, e => bindTs ts ds e
  | .tp _, _, _ => none
noncomputable def bindTs : List Tg → List D → En → Option En
  | [], [], e => some e
  | t :: ts, d :: ds, e => (bindT t d e).bind fun e => bindTs ts ds e
  | _, _, _ => none
end
mutual
noncomputable def Tg.sl : Tg → List Nat
  | .nm i => [i]
  | .tp ts => slTs ts
noncomputable def slTs : List Tg → List Nat
  | [] => []
  | t :: ts => t.sl ++ slTs ts
end
/-- only the slots at vs are others -/
structure But (vs : List Nat) (σ σ' : L2.St) : Prop where
  len : σ'.length = σ.length
  get : ∀ j, j ∉ vs → σ'[j]? = σ[j]?
theorem But.refl {vs : List Nat} {σ : L2.St} : But vs σ σ := ⟨rfl, fun _ _ => rfl⟩
theorem But.trans {vs us : List Nat} {σ σ1 σ2 : L2.St} (a : But vs σ σ1) (b : But us σ1 σ2) : But (vs ++ us) σ σ2 := ⟨b.len.trans a.len, fun j h => (b.get j fun z => h (List.mem_append_right _ z)).trans (a.get j fun z => h (List.mem_append_left _ z))⟩
theorem wipe_get {σ : L2.St} : ∀ {vs : List Nat} {j : Nat}, (L2.wipe σ vs)[j]? = if j ∈ vs then (if j < σ.length then some none else none) else σ[j]?
  | [], j => by simp [L2.wipe]
  | v :: vs, j => by
    show ((L2.wipe σ vs).set v none)[j]? = _
    rw [List.getElem?_set]
    by_cases hj : v = j
    · subst hj
      simp [wipe_length]
    · rw [if_neg hj, wipe_get (vs := vs)]
      have : (j ∈ v :: vs) ↔ j ∈ vs := by simp [Ne.symm hj]
      simp only [this]
theorem But.wipe {us vs : List Nat} {σ σ' : L2.St} (b : But us σ σ') (h : ∀ j, j ∈ us → j ∈ vs) : L2.wipe σ' vs = L2.wipe σ vs := by
  apply List.ext_getElem?
  intro j
  rw [wipe_get, wipe_get, b.len]
  by_cases hj : j ∈ vs
  · rw [if_pos hj, if_pos hj]
  · rw [if_neg hj, if_neg hj]
    exact b.get j fun z => hj (h j z)
noncomputable def TDg (K : PySem.W.Frag) (cl : Str → Addr) (tg : Tg) : TG := fun v σ H Q => ∃ am e S d e', RelS K cl am S H ∧ RelE K am H e σ ∧ VR K am H d v ∧ bindT tg d e = some e' ∧ ∀ σ', RelE K am H e' σ' → But tg.sl σ σ' → Q σ' H
noncomputable def TDgs (K : PySem.W.Frag) (cl : Str → Addr) (tg : List Tg) : TGs := fun vs σ H Q => ∃ am e S ds e', RelS K cl am S H ∧ RelE K am H e σ ∧ VRs K am H ds vs ∧ bindTs tg ds e = some e' ∧ ∀ σ', RelE K am H e' σ' → But (slTs tg) σ σ' → Q σ' H
noncomputable abbrev QG (cl : Str → Addr) (X : Cx) (target : Expr) (tg : Tg) : Prop := PG X target (TDg X.K cl tg)
noncomputable abbrev QGs (cl : Str → Addr) (X : Cx) (ts : List Expr) (tg : List Tg) : Prop := PGs X ts (TDgs X.K cl tg)
theorem _root_.L2.PG.imp {X : Cx} {e : Expr} {t t' : TG} (h : PG X e t) (i : ∀ v σ H Q, t' v σ H Q → t v σ H Q) : PG X e t' := ⟨fun pins s σ H v u Q I r q => h.run pins s σ H v u Q I r (i v σ H Q q)⟩
theorem _root_.L2.PGs.imp {X : Cx} {e : List Expr} {t t' : TGs} (h : PGs X e t) (i : ∀ v σ H Q, t' v σ H Q → t v σ H Q) : PGs X e t' := ⟨fun pins s σ H v u Q I r q => h.run pins s σ H v u Q I r (i v σ H Q q)⟩
section
variable {cl : Str → Addr} {X : Cx} {pos : Pos}
theorem But.set {i : Nat} {σ : L2.St} {v : Option V} : But [i] σ (σ.set i v) := ⟨List.length_set, fun j h => by rw [List.getElem?_set_ne]; simpa [eq_comm] using h⟩
theorem qg_nm {i : Nat} {x : Str} (hN : X.N.Nodup) (hi : X.N[i]? = some x) (hx : Loc X.env.scope x) (hf : X.fn x = true ∨ X.env.scope.names.lookup x = some .local := by first | exact .inl rfl | exact .inr rfl | assumption) : QG cl X (.Name x pos) (.nm i) :=
  (pg_name hN hi hx hf).imp fun v σ H Q ⟨am, e, S, d, e', rs, re, rv, eb, q⟩ => by
    cases eb
    exact q _ (re.set i rv) But.set
theorem qgs_nil : QGs cl X [] [] := pgs_nil.imp fun v σ H Q ⟨am, e, S, d, e', rs, re, rv, eb, q⟩ => by
  cases rv with
  | nil =>
    cases eb
    exact ⟨rfl, q σ re .refl⟩
  | cons _ _ => cases eb
theorem qgs_cons {e : Expr} {es : List Expr} {t : Tg} {ts : List Tg} (h1 : QG cl X e t) (h2 : QGs cl X es ts) (hs : (assignEach (e :: es) X.env).map (·.2) = assign e X.env :: (assignEach es X.env).map (·.2) := by rfl) : QGs cl X (e :: es) (t :: ts) :=
  (pgs_cons h1 h2 hs).imp fun v σ H Q ⟨am, e, S, ds, e', rs, re, rv, eb, q⟩ => by
    cases rv with
    | nil => cases eb
    | @cons d v1 ds1 vs1 r1 r2 =>
      have eb : ((bindT t d e).bind fun e => bindTs ts ds1 e) = some e' := eb
      cases q1 : bindT t d e with
      | none => rw [q1] at eb; cases eb
      | some e1 =>
        rw [q1] at eb
        exact ⟨_, _, rfl, am, e, S, d, e1, rs, re, r1, q1, fun σ1 re1 b1 => ⟨am, e1, S, ds1, e', rs, re1, r2, eb, fun σ2 re2 b2 => q σ2 re2 (b1.trans b2)⟩⟩
theorem qg_tp {es : List Expr} {k : Nat} {ts : List Tg} {n : Nat} (hc : X.calm = true) (h : QGs cl X es ts) (hl : ts.length = n) (hn : (assignEach es X.env).length = n := by rfl) (hst : (assignEach es X.env).findIdx? (·.1) = none := by rfl) : QG cl X (.Tuple es k pos) (.tp ts) :=
  (pg_tup hc h hn hst).imp fun v σ H Q ⟨am, e, S, d, e', rs, re, rv, eb, q⟩ => by
    have len : ∀ (ts : List Tg) (ds : List D) (e e' : En), bindTs ts ds e = some e' → ds.length = ts.length := by
      intro ts
      induction ts with
      | nil => intro ds e e' h; cases ds with | nil => rfl | cons _ _ => cases h
      | cons t ts ih =>
        intro ds e e' h
        cases ds with
        | nil => cases h
        | cons d ds =>
          have h : ((bindT t d e).bind fun e => bindTs ts ds e) = some e' := h
          cases q1 : bindT t d e with
          | none => rw [q1] at h; cases h
          | some e1 => rw [q1] at h; rw [List.length_cons, List.length_cons, ih ds e1 e' h]
    cases rv with
    | @tup a vs ds ht hs => exact ⟨a, vs, rfl, ht.seq, by rw [← hs.length, len ts ds e e' eb, hl], am, e, S, ds, e', rs, re, hs, eb, q⟩
    | @tpi a vs ds ht hs => exact ⟨a, vs, rfl, .inl ht.1, by rw [← hs.length, len ts ds e e' eb, hl], am, e, S, ds, e', rs, re, hs, eb, q⟩
    | _ => cases eb
end
/-- target = value, any target of names -/
noncomputable def sAsg (tg : Tg) (f : Ev D) : Stm := fun e S => (f e S).stm e fun d S => match bindT tg d e with
  | some e' => .next e' S
  | none => .bad
section
variable {cl : Str → Addr} {W : WX} {X : Cx} {a tgE : Expr} {f : Ev D} {tg : Tg} {pos : Pos}
theorem qs_asg (he : QE cl W X a f) (hg : QG cl X tgE tg) (hs : swapsWithSole [tgE] a pos.line X.env = pure false := by rfl) (hw : swappedStores [tgE] a X.env = pure none := by rfl)
    (h1 : (assignEach [tgE] X.env).map (·.2) = [assign tgE X.env] := by rfl) : QS cl W X (.Assign [tgE] a pos) (sAsg tg f) := (ps_asg he hg hs hw h1).imp fun E σ H ⟨am, e, S, rs, re, p⟩ =>
  ⟨am, e, S, rs, re, (PostS.step re p).imp fun x H1 ⟨am1, S1, d, _, g1, rs1, rv, p1⟩ => by
    cases q : bindT tg d e with
    | none => simp only [q] at p1; exact p1.elim
    | some e' =>
      simp only [q] at p1
      exact ⟨am1, e, S1, d, e', rs1, re.mono g1, rv, q, fun σ' re' _ => p1 am1 σ' H1 .refl rs1 re'⟩⟩
end
inductive Src where
  | tmp (xs : List D) | st (k : Nat) (xs : List D)
noncomputable def Src.items : Src → List D
  | .tmp xs => xs
  | .st _ xs => xs
noncomputable def Src.ok : Src → Sto → Prop
  | .tmp _, _ => True
  | .st k xs, S => S[k]? = some (.lst xs)
noncomputable instance (src : Src) (S : Sto) : Decidable (src.ok S) := Classical.propDecidable _
@[simp] theorem Src.items_tmp {xs : List D} : (Src.tmp xs).items = xs := id rfl
@[simp] theorem Src.items_st {k : Nat} {xs : List D} : (Src.st k xs).items = xs := id rfl
@[simp] theorem Src.ok_tmp {xs : List D} {S : Sto} : (Src.tmp xs).ok S = True := id rfl
@[simp] theorem Src.ok_st {xs : List D} {k : Nat} {S : Sto} : (Src.st k xs).ok S = (S[k]? = some (.lst xs)) := id rfl
/-- an iterator gives the items -/
noncomputable def SrcJ (K : PySem.W.Frag) (cl : Str → Addr) (src : Src) (am : AM) (H : Hp) (J : It) : Prop :=
  ∀ (am' : AM) (H' : Hp) (S' : Sto), Grow am am' H H' → RelS K cl am' S' H' → src.ok S' →
    (∀ (i : Nat) (d : D), src.items[i]? = some d → J.go i H' ∧ ∀ (x : V) (H2 : Hp), J.yld i H' x H2 → ∃ am2, Grow am' am2 H' H2 ∧ RelS K cl am2 S' H2 ∧ VR K am2 H2 d x) ∧
    (∀ i : Nat, src.items.length ≤ i → J.stop i H')
noncomputable def TDi (K : PySem.W.Frag) (cl : Str → Addr) (W : WX) (f : Ev Src) : TI := fun σ H R => ∃ am e S, RelS K cl am S H ∧ RelE K am H e σ ∧ Post K cl W σ (SrcJ K cl |> fun P => fun am H (s : Src) (J : It) => P s am H J) am H (f e S) R
noncomputable abbrev QI (cl : Str → Addr) (W : WX) (X : Cx) (tg iter : Expr) (f : Ev Src) : Prop := PI X tg iter (TDi X.K cl W f)
theorem _root_.L2.PI.imp {X : Cx} {tg e : Expr} {t t' : TI} (h : PI X tg e t) (i : ∀ σ H R, t' σ H R → t σ H R) : PI X tg e t' := ⟨fun pins s σ H R I q => h.run pins s σ H R I (i σ H R q)⟩
/-- a value as a source: a list or a tuple -/
noncomputable def srcL (d : D) (S : Sto) : Res Src := match d with
  | .lst xs => .ok (.tmp xs) S
  | .fls xs => .ok (.tmp xs) S
  | .ref k => match S[k]? with
    | some (.lst xs) => .ok (.st k xs) S
    | _ => .bad
  | _ => .bad
noncomputable def srcT (d : D) (S : Sto) : Res Src := match d with
  | .tup xs => .ok (.tmp xs) S
  | _ => .bad
noncomputable def iL (f : Ev D) : Ev Src := fun e S => (f e S).bind srcL
noncomputable def iT (f : Ev D) : Ev Src := fun e S => (f e S).bind srcT
section
variable {cl : Str → Addr} {W : WX} {X : Cx} {a b tgE : Expr} {f g : Ev D} {pos : Pos} {K : PySem.W.Frag}
theorem itl_ok {src : Src} {am : AM} {H : Hp} {a : Addr} (h : ∀ (am' : AM) (H' : Hp) (S' : Sto), Grow am am' H H' → RelS K cl am' S' H' → src.ok S' → ∃ vs, SqL K H' a vs ∧ VRs K am' H' src.items vs) : SrcJ K cl src am H (Itl K a) := by
  intro am' H' S' g rs hs
  obtain ⟨vs, h1, h2⟩ := h am' H' S' g rs hs
  refine ⟨fun i d hd => ?_, fun i hi => ⟨vs, h1, by rw [← h2.length]; exact hi⟩⟩
  obtain ⟨v, hv, rv⟩ := h2.get hd
  refine ⟨⟨vs, v, h1, hv⟩, fun x H2 hy => ?_⟩
  obtain ⟨rfl, hy⟩ := hy
  have e : v = x := Option.some.inj (hv.symm.trans (hy vs h1))
  subst e
  exact ⟨am', .refl, rs, rv⟩
theorem qi_l (ha : QE cl W X a f) : QI cl W X tgE a (iL f) := (pi_list ha).imp fun σ H R ⟨am, e, S, rs, re, p⟩ =>
  ⟨am, e, S, rs, re, (Post.step p).imp fun x H1 ⟨am1, S1, d, _, g1, rs1, rv, p1⟩ => by
    cases rv with
    | @lst a vs ds h1 h2 h3 =>
      refine ⟨a, rfl, ⟨vs, .inl (.inl h1)⟩, p1 am1 _ H1 .refl rs1 (itl_ok fun am' H' S' g rs hs => ⟨vs, .inl (.inl (g.ext.keep _ _ h1 h2).1), h3.mono g⟩)⟩
    | @fls a vs ds h1 h3 =>
      refine ⟨a, rfl, ⟨vs, h1.seq⟩, p1 am1 _ H1 .refl rs1 (itl_ok fun am' H' S' g rs hs => ⟨vs, (h1.ext g.ext).seq, h3.mono g⟩)⟩
    | @ref k a h1 =>
      simp only [srcL] at p1
      cases q : S1[k]? with
      | none => rw [q] at p1; exact p1.elim
      | some o =>
        rw [q] at p1
        cases o with
        | lst xs =>
          obtain ⟨vs, h2, h3⟩ := rs1.ob k _ a q h1
          refine ⟨a, rfl, ⟨vs, .inl (.inl h2)⟩, p1 am1 _ H1 .refl rs1 (itl_ok fun am' H' S' g rs hs => ?_)⟩
          obtain ⟨vs', h2', h3'⟩ := rs.ob k _ a hs (g.get h1)
          exact ⟨vs', .inl (.inl h2'), h3'⟩
        | dct _ => exact p1.elim
        | ins _ _ => exact p1.elim
    | _ => exact p1.elim⟩
theorem qi_t (ha : QE cl W X a f) : QI cl W X tgE a (iT f) := (pi_tup ha).imp fun σ H R ⟨am, e, S, rs, re, p⟩ =>
  ⟨am, e, S, rs, re, (Post.step p).imp fun x H1 ⟨am1, S1, d, _, g1, rs1, rv, p1⟩ => by
    cases rv with
    | @tup a vs ds h1 h2 =>
      refine ⟨a, rfl, ⟨vs, h1.seq⟩, p1 am1 _ H1 .refl rs1 fun am' H' S' g rs hs => ?_⟩
      have h1' := (h1.ext g.ext).seq
      have h2' := h2.mono g
      refine ⟨fun i d hd => ?_, fun i hi => ⟨vs, h1', by rw [← h2'.length]; exact hi⟩⟩
      obtain ⟨v, hv, rv⟩ := h2'.get hd
      refine ⟨⟨vs, v, h1', hv⟩, fun x H2 hy => ?_⟩
      obtain ⟨rfl, hy⟩ := hy
      have e : v = x := Option.some.inj (hv.symm.trans (hy vs h1'))
      subst e
      exact ⟨am', .refl, rs, rv⟩
    | _ => exact p1.elim⟩
/-- range -/
noncomputable def rngD (lo hi : Int) : List D := (List.range (hi - lo).toNat).map fun i : Nat => D.int (lo + (i : Nat))
noncomputable def Rg62 (i : Int) : Prop := -(2 ^ 62) ≤ i ∧ i < 2 ^ 62
noncomputable instance (i : Int) : Decidable (Rg62 i) := by unfold Rg62; infer_instance
noncomputable def srcR1 (ds : List D) (S : Sto) : Res Src := match ds with
  | [.int j] => if Rg62 j then .ok (.tmp (rngD 0 j)) S else .bad
  | _ => .bad
noncomputable def srcR2 (ds : List D) (S : Sto) : Res Src := match ds with
  | [.int i, .int j] => if Rg62 i ∧ Rg62 j then .ok (.tmp (rngD i j)) S else .bad
  | _ => .bad
noncomputable def iR1 (f : Ev D) : Ev Src := fun e S => (eArgs [f] e S).bind srcR1
noncomputable def iR2 (f g : Ev D) : Ev Src := fun e S => (eArgs [f, g] e S).bind srcR2
theorem itr_ok {lo : Int} {n : Nat} {xs : List D} {am : AM} {H : Hp} (hx : xs = (List.range n).map fun i : Nat => D.int (lo + (i : Nat))) : SrcJ K cl (.tmp xs) am H (Itr lo n) := by
  intro am' H' S' g rs hs
  subst hx
  refine ⟨fun i d hd => ?_, fun i hi => by simpa [Itr] using hi⟩
  have hi : i < n := by
    have := (List.getElem?_eq_some_iff.mp hd).1
    simpa using this
  have e : d = .int (lo + (i : Nat)) := by
    have hd : ((List.range n).map fun i : Nat => D.int (lo + (i : Nat)))[i]? = some d := hd
    rw [List.getElem?_map, List.getElem?_range hi] at hd
    exact (Option.some.inj hd).symm
  subst e
  refine ⟨hi, fun x H2 hy => ?_⟩
  obtain ⟨rfl, rfl⟩ := hy
  exact ⟨am', .refl, rs, .int _⟩
variable {p' : Pos}
theorem qi_r1 (hg : Gl X "range") (hm : X.mg "range" = none) (ha : QE cl W X a f) (h0 : starEach [a] X.env = (false, eval a X.env) :: starEach [] X.env := by rfl) (hs : starEach [a] X.env = [(false, eval a X.env)] := by rfl) : QI cl W X tgE (.Call (.Name "range" p') [a] [] pos) (iR1 f) :=
  (pi_range1 hg hm (qa_cons ha qa_nil h0) hs).imp fun σ H R ⟨am, e, S, rs, re, p⟩ =>
    ⟨am, e, S, rs, re, (Post.step p).imp fun xs H1 ⟨am1, S1, ds, _, g1, rs1, rv, p1⟩ => by
      cases rv with
      | nil => exact p1.elim
      | cons r1 r2 =>
        cases r2 with
        | nil =>
          cases r1 with
          | int j =>
            simp only [srcR1] at p1
            by_cases hj : Rg62 j
            · rw [if_pos hj] at p1
              exact ⟨j, rfl, hj.1, hj.2, p1 am1 _ H1 .refl rs1 (itr_ok (by unfold rngD; simp))⟩
            · rw [if_neg hj] at p1
              exact p1.elim
          | _ => exact p1.elim
        | cons _ _ => cases r1 <;> exact p1.elim⟩
end
/-- dead: slots that a turn leaves for none -/
noncomputable def forD (dead : List Nat) (tg : Tg) (src : Src) (body : Stm) : List D → En → Sto → SRes
  | [], e, S => if src.ok S then .next e S else .bad
  | x :: xs, e, S => if src.ok S then match bindT tg x e with
    | none => .bad
    | some e1 => match body e1 S with
      | .next e2 S2 => forD dead tg src body xs (wipeE e2 dead) S2
      | .cnt e2 S2 => forD dead tg src body xs (wipeE e2 dead) S2
      | .brk e2 S2 => .next e2 S2
      | r => r
    else .bad
noncomputable def sFor (dead : List Nat) (tg : Tg) (it : Ev Src) (body : Stm) : Stm := fun e S => (it e S).stm e fun src S => forD dead tg src body src.items e S
section
variable {cl : Str → Addr} {W : WX} {X : Cx} {tgE iter : Expr} {body : List Stmt} {pos : Pos} {it : Ev Src} {tg : Tg} {u : Stm}
theorem qs_for (dead : List Nat) (hp : PassesOwn (model X.prog X.w) X.A X.env X.xe) (hc : X.calm = true) (hi : QI cl W X tgE iter it) (hg : QG cl X tgE tg) (hb : QB cl W X body u) (hs : ∀ x, foldedSetIterable iter X.env x = pure x := by intro _; rfl) :
    QS cl W X (.For tgE iter body [] pos) (sFor dead tg it u) := (ps_for hp hc hi hg hb hs).imp fun E σ H ⟨am, e, S, rs, re, p⟩ => by
  refine ⟨am, e, S, rs, re, (PostS.step re p).imp fun J H1 ⟨am1, S1, src, _, g1, rs1, hJ, p1⟩ => ?_⟩
  refine ⟨fun i m σ H => m = src.items.length - i ∧ i ≤ src.items.length ∧ ∃ am2 e2 S2, Grow am1 am2 H1 H ∧ RelS X.K cl am2 S2 H ∧ RelE X.K am2 H e2 σ ∧ PostS X.K cl W am2 H (forD dead tg src u (src.items.drop i) e2 S2) E,
    ⟨_, rfl, Nat.zero_le _, am1, e, S1, .refl, rs1, re.mono g1, by rw [List.drop_zero]; exact p1⟩, ?_⟩
  rintro i m σ2 H2 ⟨rfl, hi, am2, e2, S2, g2, rs2, re2, p2⟩
  by_cases hok : src.ok S2
  · obtain ⟨hgo, hstop⟩ := hJ am2 H2 S2 g2 rs2 hok
    by_cases hlt : i < src.items.length
    · rw [List.drop_eq_getElem_cons hlt] at p2
      unfold forD at p2
      rw [if_pos hok] at p2
      have hd : src.items[i]? = some src.items[i] := List.getElem?_eq_getElem hlt
      obtain ⟨go, yld⟩ := hgo i _ hd
      refine .inr ⟨go, fun σ' H' => ∃ am3 e3 S3, Grow am1 am3 H1 H' ∧ RelS X.K cl am3 S3 H' ∧ RelE X.K am3 H' e3 σ' ∧ PostS X.K cl W am3 H' (forD dead tg src u (src.items.drop (i + 1)) e3 S3) E,
        fun σ' H' hN => ⟨src.items.length - (i + 1), by omega, rfl, hlt, hN⟩, fun x H3 hy => ?_⟩
      obtain ⟨am3, g3, rs3, rv⟩ := yld x H3 hy
      cases q : bindT tg src.items[i] e2 with
      | none => simp only [q] at p2; exact p2.elim
      | some e3 =>
        simp only [q] at p2
        refine ⟨am3, e2, S2, _, e3, rs3, re2.mono g3, rv, q, fun σ3 re3 _ => ⟨am3, e3, S2, rs3, re3, ?_⟩⟩
        cases q2 : u e3 S2 with
        | next e4 S4 =>
          simp only [q2] at p2
          exact fun am4 σ4 H4 g4 rs4 re4 => ⟨am4, _, S4, (g2.trans g3).trans g4, rs4, re4.forget dead, PostS.grow (g3.trans g4) p2⟩
        | cnt e4 S4 =>
          simp only [q2] at p2
          exact fun am4 σ4 H4 g4 rs4 re4 => ⟨am4, _, S4, (g2.trans g3).trans g4, rs4, re4.forget dead, PostS.grow (g3.trans g4) p2⟩
        | brk e4 S4 =>
          simp only [q2] at p2
          exact fun am4 σ4 H4 g4 rs4 re4 => p2 am4 σ4 H4 (g3.trans g4) rs4 re4
        | ret d S4 =>
          simp only [q2] at p2
          exact fun am4 v H4 g4 rs4 rv4 => p2 am4 v H4 (g3.trans g4) rs4 rv4
        | exc c e4 S4 =>
          simp only [q2] at p2
          exact fun am4 σ4 H4 g4 rs4 re4 => p2 am4 σ4 H4 (g3.trans g4) rs4 re4
        | bad =>
          simp only [q2] at p2
          exact p2
    · have ei : i = src.items.length := by omega
      subst ei
      rw [List.drop_length] at p2
      unfold forD at p2
      rw [if_pos hok] at p2
      exact .inl ⟨hstop _ (Nat.le_refl _), p2 am2 σ2 H2 .refl rs2 re2⟩
  · exfalso
    cases hl : src.items.drop i with
    | nil => rw [hl] at p2; unfold forD at p2; rw [if_neg hok] at p2; exact p2
    | cons x xs => rw [hl] at p2; unfold forD at p2; rw [if_neg hok] at p2; exact p2
end
noncomputable def whileN (dead : List Nat) (t : Ev Bool) (body : Stm) : Nat → En → Sto → SRes
  | 0, _, _ => .bad
  | n + 1, e, S => match t e S with
    | .ok true S => match body e S with
      | .next e2 S2 => whileN dead t body n (wipeE e2 dead) S2
      | .cnt e2 S2 => whileN dead t body n (wipeE e2 dead) S2
      | .brk e2 S2 => .next e2 S2
      | r => r
    | .ok false S => .next e S
    | .exc c S => .exc c e S
    | .bad => .bad
theorem whileN_mono {dead : List Nat} {t : Ev Bool} {body : Stm} : ∀ {n : Nat} {e : En} {S : Sto}, whileN dead t body n e S ≠ .bad → whileN dead t body (n + 1) e S = whileN dead t body n e S
  | 0, _, _, h => absurd rfl h
  | n + 1, e, S, h => by
    unfold whileN at h
    show whileN dead t body (n + 1 + 1) e S = _
    conv => lhs; unfold whileN
    conv => rhs; unfold whileN
    cases q : t e S with
    | ok b S1 =>
      cases b with
      | true =>
        simp only [q] at h ⊢
        cases q2 : body e S1 with
        | next e2 S2 => simp only [q2] at h ⊢; exact whileN_mono h
        | cnt e2 S2 => simp only [q2] at h ⊢; exact whileN_mono h
        | _ => rfl
      | false => rfl
    | exc c S1 => rfl
    | bad => rfl
theorem whileN_le {dead : List Nat} {t : Ev Bool} {body : Stm} {n m : Nat} {e : En} {S : Sto} (h : whileN dead t body n e S ≠ .bad) (hm : n ≤ m) : whileN dead t body m e S = whileN dead t body n e S := by
  induction m with
  | zero => have : n = 0 := by omega
            subst this; rfl
  | succ m ih =>
    by_cases hn : n = m + 1
    · subst hn; rfl
    · have q := ih (by omega)
      rw [← q] at h ⊢
      exact whileN_mono h
open Classical in
noncomputable def whileD (dead : List Nat) (t : Ev Bool) (body : Stm) : Stm := fun e S => if h : ∃ n, whileN dead t body n e S ≠ .bad then whileN dead t body (choose h) e S else .bad
theorem whileD_eq {dead : List Nat} {t : Ev Bool} {body : Stm} {n : Nat} {e : En} {S : Sto} {r : SRes} (h : whileN dead t body n e S = r) (hr : r ≠ .bad) : whileD dead t body e S = r := by
  have hx : ∃ n, whileN dead t body n e S ≠ .bad := ⟨n, by rw [h]; exact hr⟩
  unfold whileD
  rw [dif_pos hx]
  have q := Classical.choose_spec hx
  rcases Nat.le_total n (Classical.choose hx) with hl | hl
  · rw [whileN_le (by rw [h]; exact hr) hl, h]
  · rw [← whileN_le q hl, h]
section
variable {cl : Str → Addr} {W : WX} {X : Cx} {c : Expr} {body : List Stmt} {pos : Pos} {t : Ev Bool} {u : Stm}
theorem qs_while (dead : List Nat) (hp : PassesOwn (model X.prog X.w) X.A X.env X.xe) (hc : QT cl W X c t) (hb : QB cl W X body u) : QS cl W X (.While c body [] pos) (whileD dead t u) := (ps_while hp hc hb).imp fun E σ H ⟨am, e, S, rs, re, p⟩ => by
  unfold whileD at p
  by_cases hx : ∃ n, whileN dead t u n e S ≠ .bad
  · rw [dif_pos hx] at p
    refine ⟨fun n σ H => ∃ am e S, RelS X.K cl am S H ∧ RelE X.K am H e σ ∧ PostS X.K cl W am H (whileN dead t u n e S) E, ⟨_, am, e, S, rs, re, p⟩, ?_⟩
    rintro n σ1 H1 ⟨am1, e1, S1, rs1, re1, p1⟩
    cases n with
    | zero => exact p1.elim
    | succ n =>
      refine ⟨am1, e1, S1, rs1, re1, ?_⟩
      unfold whileN at p1
      cases q : t e1 S1 with
      | exc c S2 =>
        simp only [q] at p1
        exact fun am2 H2 g2 rs2 => p1 am2 σ1 H2 g2 rs2 (re1.mono g2)
      | bad => simp only [q] at p1; exact p1
      | ok b S2 =>
        intro am2 k H2 g2 rs2 rk
        have rk : b = k := rk
        subst rk
        cases b with
        | false =>
          simp only [q] at p1
          show E.nx σ1 H2
          exact p1 am2 σ1 H2 g2 rs2 (re1.mono g2)
        | true =>
          simp only [q] at p1
          refine ⟨fun σ' H' => ∃ am e S, RelS X.K cl am S H' ∧ RelE X.K am H' e σ' ∧ PostS X.K cl W am H' (whileN dead t u n e S) E, fun σ' H' h => ⟨n, Nat.lt_succ_self n, h⟩, am2, e1, S2, rs2, re1.mono g2, ?_⟩
          cases q2 : u e1 S2 with
          | next e4 S4 =>
            simp only [q2] at p1
            exact fun am4 σ4 H4 g4 rs4 re4 => ⟨am4, _, S4, rs4, re4.forget dead, PostS.grow (g2.trans g4) p1⟩
          | cnt e4 S4 =>
            simp only [q2] at p1
            exact fun am4 σ4 H4 g4 rs4 re4 => ⟨am4, _, S4, rs4, re4.forget dead, PostS.grow (g2.trans g4) p1⟩
          | brk e4 S4 =>
            simp only [q2] at p1
            exact fun am4 σ4 H4 g4 rs4 re4 => p1 am4 σ4 H4 (g2.trans g4) rs4 re4
          | ret d S4 =>
            simp only [q2] at p1
            exact fun am4 v H4 g4 rs4 rv4 => p1 am4 v H4 (g2.trans g4) rs4 rv4
          | exc c e4 S4 =>
            simp only [q2] at p1
            exact fun am4 σ4 H4 g4 rs4 re4 => p1 am4 σ4 H4 (g2.trans g4) rs4 re4
          | bad =>
            simp only [q2] at p1
            exact p1
  · rw [dif_neg hx] at p
    exact p.elim
end
end Pu
set_option Elab.async false
set_option linter.all false
set_option maxRecDepth 100000
namespace Pu
open PySem PySem.Spec PyProof.Rows L2
/-- nothing may be raised here -/
noncomputable def nox {α : Type} (r : Res α) : Res α := match r with
  | .ok a S => .ok a S
  | _ => .bad
@[simp] theorem nox_ok {α : Type} {a : α} {S : Sto} : nox (.ok a S) = .ok a S := id rfl
noncomputable def lcD (tg : Tg) (src : Src) (t : Ev Bool) (f : Ev D) (e : En) : List D → Sto → Res (List D)
  | [], S => if src.ok S then .ok [] S else .bad
  | x :: xs, S => if src.ok S then match bindT tg x e with
    | none => .bad
    | some e1 => (nox (t e1 S)).bind fun b S => if b = true then (nox (f e1 S)).bind fun d S => (lcD tg src t f e xs S).bind fun ds S => .ok (d :: ds) S else lcD tg src t f e xs S
    else .bad
theorem lcD_nil {tg : Tg} {src : Src} {t : Ev Bool} {f : Ev D} {e : En} {S : Sto} : lcD tg src t f e [] S = if src.ok S then .ok [] S else .bad := by
  unfold lcD
  rfl
theorem lcD_cons {tg : Tg} {src : Src} {t : Ev Bool} {f : Ev D} {e : En} {S : Sto} {x : D} {xs : List D} : lcD tg src t f e (x :: xs) S = if src.ok S then match bindT tg x e with
    | none => .bad
    | some e1 => (nox (t e1 S)).bind fun b S => if b = true then (nox (f e1 S)).bind fun d S => (lcD tg src t f e xs S).bind fun ds S => .ok (d :: ds) S else lcD tg src t f e xs S
    else .bad := by
  conv => lhs; unfold lcD
noncomputable def nLc (vs : List Nat) (tg : Tg) (it : Ev Src) (t : Ev Bool) (f : Ev D) : Ev DO := fun e S => (it e S).bind fun src S => if src.items.length ≤ sizeLine then (lcD tg src t f (wipeE e vs) src.items S).bind fun ds S => .ok (.lst ds) S else .bad
noncomputable def tYesD : Ev Bool := fun _ S => .ok true S
noncomputable abbrev W0 : WX := fun _ _ _ _ => False
section
variable {K : PySem.W.Frag} {cl : Str → Addr} {W : WX} {am am' : AM} {H H' : Hp} {S : Sto}
/-- a reserved object is written by its owner -/
theorem Ext.own {D : Addr} {o : HO} (hn : D ∈ am.no) : Ext am am H (L2.upd H D o) := ⟨fun _ _ h => h, fun b u hb nb => ⟨by rw [upd_ne (show b ≠ D from fun e => nb (by rw [e]; exact hn))]; exact hb, nb⟩⟩
theorem RelS.own {D : Addr} {o : HO} (r : RelS K cl am S H) (hn : D ∈ am.no) (hd : D ∉ am.ad) : RelS K cl am S (L2.upd H D o) :=
  ⟨r.len, r.nd, fun k u b h1 h2 => (r.ob k u b h1 h2).ext (Ext.own hn) fun w hw => by rw [upd_ne (show b ≠ D from fun e => hd (by rw [← e]; exact List.mem_of_getElem? h2))]; exact hw, fun b hb => by
    by_cases e : b = D
    · exact ⟨o, by rw [e]; exact upd_same⟩
    · obtain ⟨u, q⟩ := r.there b hb
      exact ⟨u, by rw [upd_ne e]; exact q⟩⟩
theorem Grow.own {D : Addr} {o : HO} (g : Grow am am' H H') (h : H D = none) : Grow am am' H (L2.upd H' D o) := ⟨g.pre, g.fresh, g.freshNo, g.noK, fun b u hb nb => by
  rw [upd_ne (ne_of_none hb h)]
  exact g.keep b u hb nb⟩
theorem Grow.inNo {D : Addr} (g : Grow am am' H H') (hD : ∃ o, H D = some o) (hd : D ∉ am.ad) : D ∉ am'.ad := fun z => by
  obtain ⟨o, e⟩ := hD
  have q := g.fresh D z hd
  rw [e] at q; cases q
end
section
variable {cl : Str → Addr} {W : WX} {X : Cx} {elt tgE iter : Expr} {ifs : List Expr} {scope : Scope} {own : List (Str × Nat)} {pos spos : Pos} {it : Ev Src} {tg : Tg} {t : Ev Bool} {f : Ev D}
/-- a clause's tests -/
noncomputable abbrev QTs (cl : Str → Addr) (W : WX) (X : Cx) (ifs : List Expr) (f : Ev Bool) : Prop := PTs X ifs (TD X.K cl W RB f)
theorem qts_nil {X : Cx} : QTs cl W X [] tYesD := ⟨fun pins s σ H Q I ⟨am, e, S, rs, re, p⟩ => pts_nil.run pins s σ H Q I (p am true H .refl rs rfl)⟩
/-- the reading of a comprehension, whatever becomes of the list -/
theorem imp_lc {K : PySem.W.Frag} (hsl : ∀ j, j ∈ tg.sl → j ∈ own.map (·.2)) (σ : L2.St) (H : Hp) (Q : VK) :
    TDN K cl W (nLc (own.map (·.2)) tg it t f) σ H Q → tLc (TDi K cl W it) (TDg K cl tg) (TD K cl W0 RB t) (TD K cl W0 (VR K) f) (own.map (·.2)) σ H Q := fun ⟨am, e, S, rs, re, p⟩ => by
  refine ⟨am, e, S, rs, re, (PostN.step p).imp fun J H1 ⟨am1, S1, src, _, g1, rs1, hJ, p1⟩ => ?_⟩
  intro D hD
  by_cases hz : src.items.length ≤ sizeLine
  · rw [if_pos hz] at p1
    have hD0 : H D = none := g1.unborn rs1 hD
    -- the invariant
    refine ⟨fun i m H2 => m = src.items.length - i ∧ i ≤ src.items.length ∧ ∃ am2 S2 acc vacc, Grow am1 am2 H1 H2 ∧ RelS K cl am2 S2 H2 ∧ D ∈ am2.no ∧ D ∉ am2.ad ∧ H2 D = some (.lst vacc) ∧ VRs K am2 H2 acc vacc ∧ acc.length ≤ i ∧
        RelE K am2 H2 (wipeE e (own.map (·.2))) (L2.wipe σ (own.map (·.2))) ∧
        ((lcD tg src t f (wipeE e (own.map (·.2))) src.items S1).bind fun ds S => Res.ok (DO.lst ds) S) = ((lcD tg src t f (wipeE e (own.map (·.2))) (src.items.drop i) S2).bind fun ds S => .ok (.lst (acc ++ ds)) S),
      ⟨_, rfl, Nat.zero_le _, am1.resv D, S1, [], [], Grow.resv hD, rs1.resv hD, List.mem_cons_self, fun z => rs1.new hD (am1.sub D z), upd_same, .nil, Nat.le_refl _, ((re.wipe _).mono g1).mono (Grow.resv hD), by rw [List.drop_zero] <;> rfl⟩, ?_⟩
    rintro i m H2 ⟨rfl, hi, am2, S2, acc, vacc, g2, rs2, dn, dd, hacc, racc, lacc, re2, eqn⟩
    rw [eqn] at p1
    by_cases hok : src.ok S2
    · obtain ⟨hgo, hstop⟩ := hJ am2 H2 S2 g2 rs2 hok
      by_cases hlt : i < src.items.length
      · have hd : src.items[i]? = some src.items[i] := List.getElem?_eq_getElem hlt
        obtain ⟨go, yld⟩ := hgo i _ hd
        rw [List.drop_eq_getElem_cons hlt] at p1 eqn
        rw [lcD_cons, if_pos hok] at p1 eqn
        cases q : bindT tg src.items[i] (wipeE e (own.map (·.2))) with
        | none => simp only [q] at p1; exact p1.elim
        | some e3 =>
          simp only [q] at p1 eqn
          refine .inr ⟨go, fun H' => ∃ am2 S2 acc vacc, Grow am1 am2 H1 H' ∧ RelS K cl am2 S2 H' ∧ D ∈ am2.no ∧ D ∉ am2.ad ∧ H' D = some (.lst vacc) ∧ VRs K am2 H' acc vacc ∧ acc.length ≤ i + 1 ∧
              RelE K am2 H' (wipeE e (own.map (·.2))) (L2.wipe σ (own.map (·.2))) ∧
              ((lcD tg src t f (wipeE e (own.map (·.2))) src.items S1).bind fun ds S => Res.ok (DO.lst ds) S) = ((lcD tg src t f (wipeE e (own.map (·.2))) (src.items.drop (i + 1)) S2).bind fun ds S => .ok (.lst (acc ++ ds)) S),
            fun H' hN => ⟨src.items.length - (i + 1), by omega, rfl, hlt, hN⟩, fun x H3 hy => ?_⟩
          obtain ⟨am3, g3, rs3, rv⟩ := yld x H3 hy
          refine ⟨am3, _, S2, _, e3, rs3, re2.mono g3, rv, q, fun σ3 re3 b3 => ⟨?_, ?_⟩⟩
          · rw [b3.wipe hsl]
            -- wiping twice
            apply List.ext_getElem?
            intro j
            simp only [wipe_get, wipe_length]
            by_cases hj : j ∈ own.map (·.2)
            · simp only [if_pos hj]
            · simp only [if_neg hj]
          · -- the test
            cases q2 : t e3 S2 with
            | exc c S => simp only [q2, nox, Res.bind_bad] at p1; exact p1.elim
            | bad => simp only [q2, nox, Res.bind_bad] at p1; exact p1.elim
            | ok b S4 =>
              simp only [q2, nox, Res.bind_ok] at p1 eqn
              have hDs : ∃ o, H2 D = some o := ⟨_, hacc⟩
              refine ⟨am3, e3, S2, rs3, re3, ?_⟩
              rw [q2]
              intro am4 k H4 g4 rs4 rk
              have rk : b = k := rk
              subst rk
              have g24 := g3.trans g4
              have dd4 : D ∉ am4.ad := g24.inNo hDs dd
              have keepD : ∀ {am' : AM} {H' : Hp}, Grow am2 am' H2 H' → H' D = some (.lst vacc) := fun {am' H'} g => g.keep D _ hacc dd
              cases b with
              | false =>
                rw [if_neg Bool.false_ne_true]
                rw [if_neg Bool.false_ne_true] at eqn
                exact ⟨am4, S4, acc, vacc, g2.trans g24, rs4, g24.noK D dn, dd4, keepD g24, racc.mono g24, by omega, re2.mono g24, eqn⟩
              | true =>
                rw [if_pos rfl]
                rw [if_pos rfl] at p1 eqn
                refine ⟨am4, e3, S4, rs4, re3.mono g4, ?_⟩
                cases q3 : f e3 S4 with
                | exc c S => simp only [q3, nox, Res.bind_bad] at p1; exact p1.elim
                | bad => simp only [q3, nox, Res.bind_bad] at p1; exact p1.elim
                | ok d S5 =>
                  simp only [q3, nox, Res.bind_ok] at p1 eqn
                  intro am5 y H5 g5 rs5 ry
                  have g25 := g24.trans g5
                  have dn5 := g25.noK D dn
                  have dd5 : D ∉ am5.ad := g25.inNo hDs dd
                  have hv : (vacc ++ [y]).length = (acc ++ [d]).length := by rw [List.length_append, List.length_append, racc.length] <;> rfl
                  refine ⟨vacc, keepD g25, by rw [← racc.length]; omega, am5, S5, acc ++ [d], vacc ++ [y], (g2.trans g25).own hD, rs5.own dn5 dd5, dn5, dd5, upd_same,
                    ((racc.mono g25).append (.cons ry .nil)).ext (Ext.own dn5), by rw [List.length_append]; exact Nat.succ_le_succ lacc, (re2.mono g25).ext (Ext.own dn5), ?_⟩
                  rw [eqn]
                  cases lcD tg src t f (wipeE e (own.map (·.2))) (src.items.drop (i + 1)) S5 with
                  | ok ds S6 => simp
                  | exc c S6 => rfl
                  | bad => rfl
      · have ei : i = src.items.length := by omega
        subst ei
        rw [List.drop_length] at p1
        rw [lcD_nil, if_pos hok] at p1
        simp only [Res.bind_ok, List.append_nil] at p1
        exact .inl ⟨hstop _ (Nat.le_refl _), p1 am2 D H2 (g1.trans g2) rs2 hD0 dn dd ⟨vacc, hacc, racc⟩⟩
    · exfalso
      cases hl : src.items.drop i with
      | nil => rw [hl, lcD_nil, if_neg hok] at p1; exact p1
      | cons x xs => rw [hl, lcD_cons, if_neg hok] at p1; exact p1
  · rw [if_neg hz] at p1
    exact p1.elim
variable {py : Pos}
theorem qn_lc (hc : X.calm = true) (hN : X.N.Nodup) (hi : QI cl W X tgE iter it) (ok : BlkOk X.N X.env.scope scope own) (hsl : tg.sl.all fun j => decide (j ∈ own.map (·.2)))
    (hg : ∀ (s : Shared) (H : Hp) (C : Addr) (cs : List (Str × Addr)) (fp : List Addr), QG cl (X.blk s H scope (compEnvC scope cs C X.env) fp) tgE tg) (ht : ∀ (s : Shared) (H : Hp) (C : Addr) (cs : List (Str × Addr)) (fp : List Addr), QTs cl W0 (X.blk s H scope (compEnvC scope cs C X.env) fp) ifs t)
    (he : ∀ (s : Shared) (H : Hp) (C : Addr) (cs : List (Str × Addr)) (fp : List Addr), QE cl W0 (X.blk s H scope (compEnvC scope cs C X.env) fp) elt f) (hs : ∀ x, foldedSetIterable iter X.env x = pure x := by intro _; rfl) :
    QN cl W X (.ListComp elt [⟨tgE, iter, ifs, 0⟩] scope pos) (nLc (own.map (·.2)) tg it t f) :=
  (pe_lc hc hN hi ok hg ht he hs).imp (imp_lc fun j hj => of_decide_eq_true (List.all_eq_true.mp hsl j hj))
theorem imp_set {K : PySem.W.Frag} {i : Nat} {f : Ev D} {E : Ends} {σ : L2.St} {H : Hp} (h : TDs K cl W (sSet i f) E σ H) : TD K cl W (VR K) f σ H (fun x H1 => E.nx (σ.set i (some x)) H1) :=
  let ⟨am, e, S, rs, re, p⟩ := h
  ⟨am, e, S, rs, re, (PostS.step re p).imp fun x H1 ⟨am1, S1, d, _, g1, rs1, rv, p1⟩ => p1 am1 _ H1 .refl rs1 ((re.mono g1).set i rv)⟩
/-- y = [..], on one line, y a local -/
theorem qs_setLc {i : Nat} {y : Str} {g : Ev D} (hc : X.calm = true) (hN : X.N.Nodup) (hy : X.N[i]? = some y) (hyl : X.env.scope.names.lookup y = some .local)
    (hsw : swapsWith (.ListComp elt [⟨tgE, iter, ifs, 0⟩] scope pos) (some (.Name y py)) spos.line X.env = pure true) (hi : QI cl W X tgE iter it) (ok : BlkOk X.N X.env.scope scope own) (hsl : tg.sl.all fun j => decide (j ∈ own.map (·.2)))
    (hg : ∀ (s : Shared) (H : Hp) (C : Addr) (cs : List (Str × Addr)) (fp : List Addr), QG cl (X.blk s H scope (compEnvC scope cs C X.env) fp) tgE tg) (ht : ∀ (s : Shared) (H : Hp) (C : Addr) (cs : List (Str × Addr)) (fp : List Addr), QTs cl W0 (X.blk s H scope (compEnvC scope cs C X.env) fp) ifs t)
    (he : ∀ (s : Shared) (H : Hp) (C : Addr) (cs : List (Str × Addr)) (fp : List Addr), QE cl W0 (X.blk s H scope (compEnvC scope cs C X.env) fp) elt f)
    (kind : ∀ σ H Q, TD X.K cl W (VR X.K) g σ H Q → TDN X.K cl W (nLc (own.map (·.2)) tg it t f) σ H Q) (hs : ∀ x, foldedSetIterable iter X.env x = pure x := by intro _; rfl) :
    QS cl W X (.Assign [.Name y py] (.ListComp elt [⟨tgE, iter, ifs, 0⟩] scope pos) spos) (sSet i g) :=
  (ps_setLc hc hN hy hyl hsw hi ok hg ht he hs).imp fun E σ H h => imp_lc (fun j hj => of_decide_eq_true (List.all_eq_true.mp hsl j hj)) σ H _ (kind _ _ _ (imp_set h))
end
mutual
/-- no number of the store -/
noncomputable def D.gnd : D → Bool
  | .tup xs => gnds xs
  | .tpi xs => gnds xs
  | .lst xs => gnds xs
  | .fls xs => gnds xs
  | .dct xs => gndk xs
  | .ref _ => false
  | _ => true
noncomputable def gnds : List D → Bool
  | [] => true
  | x :: xs => x.gnd && gnds xs
noncomputable def gndk : List (Key × D) → Bool
  | [] => true
  | (_, x) :: xs => x.gnd && gndk xs
end
mutual
/-- all numbers below n -/
noncomputable def D.bel (n : Nat) : D → Bool
  | .tup xs => belows n xs
  | .tpi xs => belows n xs
  | .lst xs => belows n xs
  | .fls xs => belows n xs
  | .dct xs => belowk n xs
  | .ref k => decide (k < n)
  | _ => true
noncomputable def belows (n : Nat) : List D → Bool
  | [] => true
  | x :: xs => x.bel n && belows n xs
noncomputable def belowk (n : Nat) : List (Key × D) → Bool
  | [] => true
  | (_, x) :: xs => x.bel n && belowk n xs
end
noncomputable def DO.bel (n : Nat) : DO → Bool
  | .lst xs => belows n xs
  | .dct xs => belowk n xs
  | .ins _ fs => fs.all fun p => p.2.bel n
mutual
theorem gnd_below (n : Nat) : ∀ d : D, d.gnd = true → d.bel n = true
  | .tup xs, h => gnds_below n xs h
  | .tpi xs, h => gnds_below n xs h
  | .lst xs, h => gnds_below n xs h
  | .fls xs, h => gnds_below n xs h
  | .dct xs, h => gndk_below n xs h
  | .ref _, h => absurd h (by simp [D.gnd])
  | .non, _ => rfl
  | .bl _, _ => rfl
  | .int _, _ => rfl
  | .str _, _ => rfl
theorem gnds_below (n : Nat) : ∀ xs : List D, gnds xs = true → belows n xs = true
  | [], _ => rfl
  | x :: xs, h => by
    have h' : x.gnd = true ∧ gnds xs = true := by simpa [gnds] using h
    show (x.bel n && belows n xs) = true
    rw [gnd_below n x h'.1, gnds_below n xs h'.2]
    rfl
theorem gndk_below (n : Nat) : ∀ xs : List (Key × D), gndk xs = true → belowk n xs = true
  | [], _ => rfl
  | (k, x) :: xs, h => by
    have h' : x.gnd = true ∧ gndk xs = true := by simpa [gndk] using h
    show (x.bel n && belowk n xs) = true
    rw [gnd_below n x h'.1, gndk_below n xs h'.2]
    rfl
end
noncomputable def allSome {α : Type} : List (Option α) → Option (List α)
  | [] => some []
  | some x :: xs => (allSome xs).map (x :: ·)
  | none :: _ => none
/-- what came up within a def is handed back by its data -/
noncomputable def frzV (n : Nat) (S : Sto) : Nat → D → Option D
  | 0, d => if d.bel n = true then some d else none
  | f + 1, d => if d.bel n = true then some d else match d with
    | .ref k => match S[k]? with
      | some (.lst xs) => (allSome (xs.map (frzV n S f))).map .lst
      | some (.dct xs) => (allSome (xs.map fun p => (frzV n S f p.2).map fun y => (p.1, y))).map .dct
      | _ => none
    | .tup xs => (allSome (xs.map (frzV n S f))).map .tup
    | .lst xs => (allSome (xs.map (frzV n S f))).map .lst
    | .dct xs => (allSome (xs.map fun p => (frzV n S f p.2).map fun y => (p.1, y))).map .dct
    | _ => none
/-- what stood keeps within what stood -/
noncomputable def Clo (S S' : Sto) : Prop := S.length ≤ S'.length ∧ ∀ (k : Nat) (o : DO), k < S.length → S'[k]? = some o → S[k]? = some o ∨ o.bel S.length = true
noncomputable instance (S S' : Sto) : Decidable (Clo S S') := Classical.propDecidable _
/-- frz: by its data; keep: all stays; new: one new object comes along -/
inductive Md where
  | frz | keep | new
noncomputable def fin (m : Md) (S : Sto) (d : D) (S' : Sto) : Res D := match m with
  | .keep => .ok d S'
  | .frz => if Clo S S' then (opt (frzV S.length S' 6 d) (S'.take S.length)) else .bad
  | .new => match d with
    | .ref k => if Clo S S' ∧ S.length ≤ k then match S'[k]? with
        | some o => if o.bel S.length = true then .ok (.ref S.length) (S'.take S.length ++ [o]) else .bad
        | none => .bad
      else .bad
    | _ => .bad
noncomputable def retD (m : Md) (S : Sto) (r : SRes) : Res D := match r with
  | .ret d S' => fin m S d S'
  | .next _ S' => fin m S .non S'
  | .exc c _ S' => match m with
    | .keep => .exc c S'
    | _ => if Clo S S' then .exc c (S'.take S.length) else .bad
  | _ => .bad
noncomputable def startE (n : Nat) (ds : List D) : En := ds.map some ++ List.replicate (n - ds.length) none
/-- a def by its body: n names -/
noncomputable def runD (m : Md) (n : Nat) (body : Stm) (ds : List D) (S : Sto) : Res D := retD m S (body (startE n ds) S)
section
variable {K : PySem.W.Frag} {cl : Str → Addr} {W : WX} {am am' : AM} {H H' : Hp} {S S' : Sto} {σ : L2.St}
mutual
theorem VR.bel : ∀ {d : D} {v : V}, VR K am H d v → d.bel am.ad.length = true
  | _, _, .non => rfl
  | _, _, .bl _ => rfl
  | _, _, .int _ => rfl
  | _, _, .str _ => rfl
  | _, _, .tup _ hs => VRs.bel hs
  | _, _, .tpi _ hs => VRs.bel hs
  | _, _, .lst _ _ hs => VRs.bel hs
  | _, _, .fls _ hs => VRs.bel hs
  | _, _, .dct _ _ hs => VRk.bel hs
  | _, _, .ref h => decide_eq_true (List.getElem?_eq_some_iff.mp h).1
theorem VRs.bel : ∀ {ds : List D} {vs : List V}, VRs K am H ds vs → belows am.ad.length ds = true
  | _, _, .nil => rfl
  | _, _, .cons h t => by
    show (D.bel _ _ && belows _ _) = true
    rw [VR.bel h, VRs.bel t]
    rfl
theorem VRk.bel : ∀ {ds : List (Key × D)} {vs : List (Key × V)}, VRk K am H ds vs → belowk am.ad.length ds = true
  | _, _, .nil => rfl
  | _, _, .cons h t => by
    show (D.bel _ _ && belowk _ _) = true
    rw [VR.bel h, VRk.bel t]
    rfl
end
theorem VRf_bel : ∀ {fs : List (Str × D)} {vs : List (Str × V)}, VRf K am H fs vs → (fs.all fun p => p.2.bel am.ad.length) = true
  | _, _, .nil => rfl
  | _, _, .cons h t => by
    rw [List.all_cons, VRf_bel t, h.2.bel]
    rfl
theorem OR.bel {a : Addr} {o : DO} (h : OR K cl am H a o) : o.bel am.ad.length = true := by
  cases o with
  | lst xs => obtain ⟨vs, _, h⟩ := h; exact h.bel
  | dct xs => obtain ⟨vs, _, h⟩ := h; exact h.bel
  | ins c fs =>
    obtain ⟨dx, vs, _, h⟩ := h
    exact VRf_bel h
/-- the store cut back -/
noncomputable def AM.cut (am : AM) (n : Nat) (x : List Addr) (nd : am.ad.Nodup) : AM := ⟨am.ad.take n, am.no.filter fun b => decide (b ∉ am.ad.drop n ∨ b ∈ x), fun a ha => List.mem_filter.mpr ⟨am.sub a (List.mem_of_mem_take ha), decide_eq_true (.inl fun z => by
  have q : (am.ad.take n ++ am.ad.drop n).Nodup := by rw [List.take_append_drop]; exact nd
  exact (List.nodup_append.mp q).2.2 a ha a z rfl)⟩⟩
theorem cut_not {nd : am.ad.Nodup} {n : Nat} {x : List Addr} {a : Addr} (h : a ∉ am.no) : a ∉ (am.cut n x nd).no := fun z => h (List.mem_filter.mp z).1
mutual
theorem VR.cut {n : Nat} {x : List Addr} (nd : am.ad.Nodup) : ∀ {d : D} {v : V}, VR K am H d v → d.bel n = true → VR K (am.cut n x nd) H d v
  | _, _, .non, _ => .non
  | _, _, .bl b, _ => .bl b
  | _, _, .int i, _ => .int i
  | _, _, .str x, _ => .str x
  | _, _, .tup h hs, q => .tup (by
      rcases h with ⟨o, h, d, n⟩ | h
      · exact .inl ⟨o, h, d, cut_not n⟩
      · exact .inr h) (VRs.cut nd hs q)
  | _, _, .tpi h hs, q => .tpi ⟨h.1, cut_not h.2⟩ (VRs.cut nd hs q)
  | _, _, .lst h n hs, q => .lst h (cut_not n) (VRs.cut nd hs q)
  | _, _, .fls h hs, q => .fls (by
      rcases h with ⟨h, n⟩ | h
      · exact .inl ⟨h, cut_not n⟩
      · exact .inr h) (VRs.cut nd hs q)
  | _, _, .dct h n hs, q => .dct h (cut_not n) (VRk.cut nd hs q)
  | _, _, .ref h, q => .ref (by
      show (am.ad.take n)[_]? = some _
      rw [List.getElem?_take_of_lt (of_decide_eq_true q)]
      exact h)
theorem VRs.cut {n : Nat} {x : List Addr} (nd : am.ad.Nodup) : ∀ {ds : List D} {vs : List V}, VRs K am H ds vs → belows n ds = true → VRs K (am.cut n x nd) H ds vs
  | _, _, .nil, _ => .nil
  | _, _, .cons h t, q => .cons (VR.cut nd h (Bool.and_eq_true_iff.mp q).1) (VRs.cut nd t (Bool.and_eq_true_iff.mp q).2)
theorem VRk.cut {n : Nat} {x : List Addr} (nd : am.ad.Nodup) : ∀ {ds : List (Key × D)} {vs : List (Key × V)}, VRk K am H ds vs → belowk n ds = true → VRk K (am.cut n x nd) H ds vs
  | _, _, .nil, _ => .nil
  | _, _, .cons h t, q => .cons (VR.cut nd h (Bool.and_eq_true_iff.mp q).1) (VRk.cut nd t (Bool.and_eq_true_iff.mp q).2)
end
theorem VRf_cut {n : Nat} {x : List Addr} (nd : am.ad.Nodup) : ∀ {fs : List (Str × D)} {vs : List (Str × V)}, VRf K am H fs vs → (fs.all fun p => p.2.bel n) = true → VRf K (am.cut n x nd) H fs vs
  | _, _, .nil, _ => .nil
  | _, _, .cons h t, q => by
    rw [List.all_cons, Bool.and_eq_true] at q
    exact .cons ⟨h.1, h.2.cut nd q.1⟩ (VRf_cut nd t q.2)
theorem OR.cut {n : Nat} {x : List Addr} (nd : am.ad.Nodup) {a : Addr} {o : DO} (h : OR K cl am H a o) (q : o.bel n = true) : OR K cl (am.cut n x nd) H a o := by
  cases o with
  | lst xs => obtain ⟨vs, h1, h⟩ := h; exact ⟨vs, h1, h.cut nd q⟩
  | dct xs => obtain ⟨vs, h1, h⟩ := h; exact ⟨vs, h1, h.cut nd q⟩
  | ins c fs =>
    obtain ⟨dx, vs, h1, h⟩ := h
    exact ⟨dx, vs, h1, VRf_cut nd h q⟩
theorem Grow.cut {x : List Addr} (g : Grow am am' H H') (rs : RelS K cl am S H) (nd : am'.ad.Nodup) : Grow am (am'.cut S.length x nd) H H' := by
  obtain ⟨r, e⟩ := g.pre
  have et : am'.ad.take S.length = am.ad := by rw [e, ← rs.len, List.take_left]
  refine ⟨⟨[], by show am'.ad.take S.length = _; rw [et, List.append_nil]⟩, fun b hb nb => ?_, fun b hb nb => g.freshNo b (List.mem_filter.mp hb).1 nb, fun b hb => List.mem_filter.mpr ⟨g.noK b hb, decide_eq_true (.inl fun z => ?_)⟩, g.keep⟩
  · have hb : b ∈ am'.ad.take S.length := hb
    rw [et] at hb
    exact absurd hb nb
  · have q : (am'.ad.take S.length ++ am'.ad.drop S.length).Nodup := by rw [List.take_append_drop]; exact nd
    have nb : b ∉ am.ad := fun w => (List.nodup_append.mp q).2.2 b (by rw [et]; exact w) b z rfl
    obtain ⟨o, eo⟩ := rs.there b hb
    have := g.fresh b (List.mem_of_mem_drop z) nb
    rw [eo] at this; cases this
theorem RelS.cut {x : List Addr} (g : Grow am am' H H') (rs : RelS K cl am S H) (rs' : RelS K cl am' S' H') (hc : Clo S S') : RelS K cl (am'.cut S.length x rs'.nd) (S'.take S.length) H' := by
  refine ⟨?_, rs'.nd.sublist (List.take_sublist _ _), fun k o a h1 h2 => ?_, fun a ha => rs'.there a (List.mem_filter.mp ha).1⟩
  · show (am'.ad.take S.length).length = _
    rw [List.length_take, List.length_take, rs'.len]
  · have hk : k < S.length := by
      have := (List.getElem?_eq_some_iff.mp h1).1
      rw [List.length_take] at this
      omega
    rw [List.getElem?_take_of_lt hk] at h1
    have h2 : (am'.ad.take S.length)[k]? = some a := h2
    rw [List.getElem?_take_of_lt hk] at h2
    refine (rs'.ob k o a h1 h2).cut rs'.nd ?_
    rcases hc.2 k o hk h1 with q | q
    · obtain ⟨b, hb, ho⟩ := rs.has q
      have := ho.bel
      rw [rs.len] at this
      exact this
    · exact q
theorem allSome_VRs {am1 : AM} {f : D → Option D} (hf : ∀ d v d', VR K am H d v → f d = some d' → VR K am1 H d' v) : ∀ {xs : List D} {vs : List V} {ys : List D}, VRs K am H xs vs → allSome (xs.map f) = some ys → VRs K am1 H ys vs
  | _, _, _, .nil, h => by cases h; exact .nil
  | _, _, ys, .cons (d := d) (ds := ds) h t, q => by
    rw [List.map_cons] at q
    cases e : f d with
    | none => rw [e] at q; cases q
    | some d' =>
      rw [e] at q
      simp only [allSome] at q
      cases e2 : allSome (ds.map f) with
      | none => rw [e2] at q; cases q
      | some ys' =>
        rw [e2] at q
        cases q
        exact .cons (hf _ _ _ h e) (allSome_VRs hf t e2)
theorem allSome_VRk {am1 : AM} {f : D → Option D} (hf : ∀ d v d', VR K am H d v → f d = some d' → VR K am1 H d' v) : ∀ {xs : List (Key × D)} {vs : List (Key × V)} {ys : List (Key × D)}, VRk K am H xs vs → allSome (xs.map fun p => (f p.2).map fun y => (p.1, y)) = some ys → VRk K am1 H ys vs
  | _, _, _, .nil, h => by cases h; exact .nil
  | _, _, ys, .cons (k := k) (d := d) (ds := ds) h t, q => by
    rw [List.map_cons] at q
    cases e : f d with
    | none => simp only [e] at q; cases q
    | some d' =>
      simp only [e, Option.map_some, allSome] at q
      cases e2 : allSome (ds.map fun p => (f p.2).map fun y => (p.1, y)) with
      | none => rw [e2] at q; cases q
      | some ys' =>
        rw [e2] at q
        cases q
        exact .cons (hf _ _ _ h e) (allSome_VRk hf t e2)
theorem VR.frz {n : Nat} (rs : RelS K cl am S H) : ∀ (f : Nat) (d : D) (v : V) (d' : D), VR K am H d v → frzV n S f d = some d' → VR K (am.cut n [] rs.nd) H d' v
  | 0, d, v, d', h, q => by
    unfold frzV at q
    by_cases hb : d.bel n = true
    · rw [if_pos hb] at q
      cases q
      exact h.cut rs.nd hb
    · rw [if_neg hb] at q
      cases q
  | f + 1, d, v, d', h, q => by
    unfold frzV at q
    by_cases hb : d.bel n = true
    · rw [if_pos hb] at q
      cases q
      exact h.cut rs.nd hb
    · rw [if_neg hb] at q
      have ih := VR.frz (n := n) rs f
      cases h with
      | @ref k a h1 =>
        simp only at q
        have hk : ¬ k < n := fun z => hb (decide_eq_true z)
        have na : a ∉ (am.cut n [] rs.nd).no := fun z => by
          rcases of_decide_eq_true (List.mem_filter.mp z).2 with z | z
          · refine z ?_
            obtain ⟨hl, e⟩ := List.getElem?_eq_some_iff.mp h1
            rw [List.mem_drop_iff_getElem]
            exact ⟨k - n, by omega, by simp only [show n + (k - n) = k by omega]; exact e⟩
          · cases z
        cases e : S[k]? with
        | none => rw [e] at q; cases q
        | some o =>
          rw [e] at q
          cases o with
          | lst xs =>
            obtain ⟨vs, h2, h3⟩ := rs.ob k _ a e h1
            simp only at q
            cases e2 : allSome (xs.map (frzV n S f)) with
            | none => rw [e2] at q; cases q
            | some ys =>
              rw [e2] at q
              cases q
              exact .lst h2 na (allSome_VRs ih h3 e2)
          | dct xs =>
            obtain ⟨vs, h2, h3⟩ := rs.ob k _ a e h1
            simp only at q
            cases e2 : allSome (xs.map fun p => (frzV n S f p.2).map fun y => (p.1, y)) with
            | none => rw [e2] at q; cases q
            | some ys =>
              rw [e2] at q
              cases q
              exact .dct h2 na (allSome_VRk ih h3 e2)
          | ins c fs => cases q
      | @tup a vs xs h1 h3 =>
        simp only at q
        cases e2 : allSome (xs.map (frzV n S f)) with
        | none => rw [e2] at q; cases q
        | some ys =>
          rw [e2] at q
          cases q
          exact .tup (by
            rcases h1 with ⟨o, h1, d1, n1⟩ | h1
            · exact .inl ⟨o, h1, d1, cut_not n1⟩
            · exact .inr h1) (allSome_VRs ih h3 e2)
      | @lst a vs xs h1 n1 h3 =>
        simp only at q
        cases e2 : allSome (xs.map (frzV n S f)) with
        | none => rw [e2] at q; cases q
        | some ys =>
          rw [e2] at q
          cases q
          exact .lst h1 (cut_not n1) (allSome_VRs ih h3 e2)
      | @dct a vs xs h1 n1 h3 =>
        simp only at q
        cases e2 : allSome (xs.map fun p => (frzV n S f p.2).map fun y => (p.1, y)) with
        | none => rw [e2] at q; cases q
        | some ys =>
          rw [e2] at q
          cases q
          exact .dct h1 (cut_not n1) (allSome_VRk ih h3 e2)
      | _ => cases q
/-- what is handed back is what is promised -/
theorem fin_ok {m : Md} {d : D} {v : V} {Q : VK} (rs : RelS K cl am S H) (p : Post K cl W σ (VR K) am H (fin m S d S') Q) (g : Grow am am' H H') (rs' : RelS K cl am' S' H') (rv : VR K am' H' d v) : Q v H' := by
  cases m with
  | keep => exact p am' v H' g rs' rv
  | frz =>
    simp only [fin] at p
    by_cases hc : Clo S S'
    · rw [if_pos hc] at p
      cases e : frzV S.length S' 6 d with
      | none => rw [e] at p; exact p.elim
      | some d' =>
        rw [e] at p
        exact p _ v H' (g.cut (x := []) rs rs'.nd) (RelS.cut g rs rs' hc) (VR.frz rs' 6 d v d' rv e)
    · rw [if_neg hc] at p
      exact p.elim
  | new =>
    cases rv with
    | @ref k a h1 =>
      simp only [fin] at p
      by_cases hc : Clo S S' ∧ S.length ≤ k
      · rw [if_pos hc] at p
        cases e : S'[k]? with
        | none => rw [e] at p; exact p.elim
        | some o =>
          rw [e] at p
          simp only at p
          by_cases hb : o.bel S.length = true
          · rw [if_pos hb] at p
            -- the object at a comes along, at its new number
            have hm : a ∈ am'.ad := List.mem_of_getElem? h1
            have na : a ∉ am.ad := fun z => by
              obtain ⟨r, er⟩ := g.pre
              obtain ⟨j, hj, ej⟩ := List.mem_iff_getElem.mp z
              have h2 : am'.ad[j]? = some a := by rw [er, List.getElem?_append_left hj, List.getElem?_eq_getElem hj, ej]
              have := nd_ix rs'.nd h1 h2
              rw [rs.len] at hj
              omega
            have hH : H a = none := g.fresh a hm na
            have gc : Grow am (am'.cut S.length [a] rs'.nd) H H' := g.cut rs rs'.nd
            have rc : RelS K cl (am'.cut S.length [a] rs'.nd) (S'.take S.length) H' := RelS.cut g rs rs' hc.1
            have hno : a ∈ (am'.cut S.length [a] rs'.nd).no := List.mem_filter.mpr ⟨am'.sub a hm, decide_eq_true (.inr (by simp))⟩
            have had : a ∉ (am'.cut S.length [a] rs'.nd).ad := fun z => na (by
              obtain ⟨r, er⟩ := g.pre
              have z : a ∈ am'.ad.take S.length := z
              rw [er, ← rs.len, List.take_left] at z
              exact z)
            have ho := (rs'.ob k o a e h1).cut (x := [a]) rs'.nd hb
            refine p _ (.ref a) H' (gc.push hno hH) (rc.push hno had ho) (.ref ?_)
            show ((am'.cut S.length [a] rs'.nd).ad ++ [a])[S.length]? = some a
            have hl : (am'.cut S.length [a] rs'.nd).ad.length = S.length := by
              rw [rc.len, List.length_take]
              have := hc.1.1
              omega
            rw [List.getElem?_append_right (by rw [hl]; exact Nat.le_refl _), hl, Nat.sub_self]
            rfl
          · rw [if_neg hb] at p
            exact p.elim
      · rw [if_neg hc] at p
        exact p.elim
    | _ => exact p.elim
end
end Pu
set_option Elab.async false
set_option linter.all false
set_option maxRecDepth 100000
namespace Pu
open PySem PySem.Spec PyProof.Rows L2
noncomputable def SpD (K : PySem.W.Frag) (cl : Str → Addr) (n : Nat) (F : List D → Sto → Res D) : Sp := fun vs H Q E =>
  ∃ am ds S, ds.length = n ∧ RelS K cl am S H ∧ VRs K am H ds vs ∧ Post K cl (fun c d _ H => E c d H) [] (VR K) am H (F ds S) Q
/-- a def of the text stands where its name says -/
structure DefIn (K : PySem.W.Frag) (mg : Str → Option Value) (x : Str) (st : Stmt) (ps : List Str) : Prop where
  ex : ∃ f fd, Fun K x x st f fd ∧ mg x = some (.ref f) ∧ ∀ us : List Value, us.length = ps.length → bindArgs fd ⟨us, []⟩ = pure (ps.zip us)
structure DefOk (P : Program) (w : World) (K : PySem.W.Frag) (mg : Str → Option Value) (base : Heap) (cl : Str → Addr) (x : Str) (k : Nat) (ps : List Str) (F : List D → Sto → Res D) : Prop where
  ex : ∃ f fd, FnOk P w K mg base (L2N.CX P w) k f fd ps (SpD K cl ps.length F) ∧ mg x = some (.ref f) ∧ PySem.W.keepIn K (.ref f) = true ∧ (∀ us : List Value, us.length = ps.length → bindArgs fd ⟨us, []⟩ = pure (ps.zip us)) ∧
    ∃ (oc : Value) (od : Option Addr) (osl : Array (Option Value)), K.lookup f = some ⟨oc, od, .func fd, osl⟩
section
variable {P : Program} {w : World} {K : PySem.W.Frag} {mg : Str → Option Value} {base : Heap} {cl : Str → Addr}
theorem DefOk.mono {x : Str} {k j : Nat} {ps : List Str} {F : List D → Sto → Res D} (d : DefOk P w K mg base cl x k ps F) (h : k ≤ j) : DefOk P w K mg base cl x j ps F :=
  let ⟨f, fd, a, b⟩ := d.ex
  ⟨f, fd, a.mono h, b⟩
theorem startE_rel {am : AM} {H : Hp} {ds : List D} {vs : List V} {N : List Str} (h : VRs K am H ds vs) : RelE K am H (startE N.length ds) (L2.start N vs) := by
  refine ⟨?_, fun i d hd => ?_⟩
  · unfold startE L2.start
    simp [h.length]
  · unfold startE at hd
    unfold L2.start
    by_cases hi : i < ds.length
    · rw [List.getElem?_append_left (by simpa using hi), List.getElem?_map] at hd
      cases e : ds[i]? with
      | none => rw [e] at hd; cases hd
      | some z =>
        rw [e] at hd
        cases hd
        obtain ⟨v, hv, rv⟩ := h.get e
        refine ⟨v, ?_, rv⟩
        rw [List.getElem?_append_left (by rw [List.length_map, ← h.length]; exact hi), List.getElem?_map, hv]
        rfl
    · rw [List.getElem?_append_right (by simpa using hi), List.getElem?_replicate] at hd
      split at hd <;> cases hd
theorem qf_mk {k : Nat} {N ps : List Str} {st : Stmt} {x qual : Str} {f : Addr} {fd : FuncData} {m : Md} {body : Stm} (Fn : Fun K x qual st f fd) (Sc : FnScope N ps (defScope st))
    (hb : ∀ (cdv : Value) (A : Around) (outer : List PySem.Env) (s : Shared) (H : Hp) (E : XK), Room k (A.deeper (envOfC qual (defScope st) s.heap.objs.size f cdv)) →
      QB cl (fun c d _ H => E c d H) (cxOf (L2N.CX P w) P w K mg base N qual (defScope st) f cdv A outer s H E) (defBody st) body) :
    FnOk P w K mg base (L2N.CX P w) (k + 1) f fd ps (SpD K cl ps.length (runD m N.length body)) := by
  obtain ⟨oc, od, kV, doc, pm, an, cdv, ct, osl, rfl, lk, hcd⟩ := Fn.ex
  refine fn_of lk hcd Sc (fun vs H Q E h => ?_) (fun A outer s H vs Q E hr h => ⟨_, hb cdv A outer s H E hr, ?_⟩)
  · obtain ⟨am, ds, S, hl, _, hv, _⟩ := h
    rw [← hv.length, hl]
  · obtain ⟨am, ds, S, hl, rs, hv, p⟩ := h
    refine ⟨am, startE N.length ds, S, rs, startE_rel hv, ?_⟩
    unfold runD at p
    cases q : body (startE N.length ds) S with
    | next e S' =>
      rw [q] at p
      exact fun am' σ H' g rs' re' => fin_ok rs p g rs' .non
    | ret d S' =>
      rw [q] at p
      exact fun am' v H' g rs' rv => fin_ok rs p g rs' rv
    | brk e S' => rw [q] at p; exact p.elim
    | cnt e S' => rw [q] at p; exact p.elim
    | exc c e S' =>
      rw [q] at p
      intro am' σ H' g rs' re'
      have other : m ≠ .keep → Post K cl (fun c d _ H => E c d H) [] (VR K) am H (if Clo S S' then (.exc c (S'.take S.length) : Res D) else .bad) Q → E (.ref (cl c)) none H' := fun _ p => by
        by_cases hc : Clo S S'
        · rw [if_pos hc] at p
          exact p _ H' (g.cut (x := []) rs rs'.nd) (RelS.cut g rs rs' hc)
        · rw [if_neg hc] at p
          exact p.elim
      cases m with
      | keep => exact p am' H' g rs'
      | frz => exact other (fun z => nomatch z) p
      | new => exact other (fun z => nomatch z) p
    | bad => rw [q] at p; exact p.elim
theorem def_ok {k : Nat} {N ps : List Str} {st : Stmt} {x : Str} {m : Md} {body : Stm} (I : DefIn K mg x st ps) (Sc : FnScope N ps (defScope st))
    (hb : ∀ (f : Addr) (cdv : Value) (A : Around) (outer : List PySem.Env) (s : Shared) (H : Hp) (E : XK), Room k (A.deeper (envOfC x (defScope st) s.heap.objs.size f cdv)) →
      QB cl (fun c d _ H => E c d H) (cxOf (L2N.CX P w) P w K mg base N x (defScope st) f cdv A outer s H E) (defBody st) body) :
    DefOk P w K mg base cl x (k + 1) ps (runD m N.length body) := by
  obtain ⟨f, fd, Fn, hm, hbd⟩ := I.ex
  obtain ⟨oc, od, kV, doc, pm, an, cdv, ct, osl, e, lk, hcd⟩ := Fn.ex
  exact ⟨f, fd, qf_mk Fn Sc (hb f), hm, Fn.kp, hbd, oc, od, osl, lk⟩
/-- the law's own def, for the end -/
theorem law_fn {k : Nat} {x : Str} {F : List D → Sto → Res D} {st : Stmt} {ps : List Str} {fa : Addr} (I : DefIn K mg x st ps) (hfa : mg x = some (.ref fa)) : ∃ fd : FuncData, (∀ us : List Value, us.length = ps.length → bindArgs fd ⟨us, []⟩ = pure (ps.zip us)) ∧
    ∀ base : Heap, DefOk P w K mg base cl x k ps F → FnOk P w K mg base (L2N.CX P w) k fa fd ps (SpD K cl ps.length F) := by
  obtain ⟨f, fd, Fn, hm, hbd⟩ := I.ex
  obtain ⟨oc, od, kV, doc, pm, an, cdv, ct, osl, e, lk, hcd⟩ := Fn.ex
  cases hfa.symm.trans hm
  refine ⟨fd, hbd, fun base G => ?_⟩
  obtain ⟨f2, fd2, Fk, hm2, _, _, oc2, od2, osl2, lk2⟩ := G.ex
  cases hfa.symm.trans hm2
  rw [lk] at lk2
  cases lk2
  exact Fk
theorem defIn_mk {h : Heap} {x : Str} {st : Stmt} {ps : List Str} {f : Addr} {oc : Value} {od an : Option Addr} {osl : Array (Option Value)} {kV doc pm cdv ct : Value} (X : K.In h) (G : h.Ns mainGlobals mg)
    (a : PySem.W.nsIn K mainGlobals x = some (some (.ref f))) (l : K.lookup f = some ⟨oc, od, .func (PySem.W.fnOf x x (defArgs st) (defBody st) (defScope st) .none kV doc pm an cdv ct), osl⟩) (c : PySem.W.codeIn K cdv x = true) (k : PySem.W.keepIn K (.ref f) = true)
    (hb : ∀ (kV doc pm : Value) (an : Option Addr) (cdv ct : Value) (us : List Value), us.length = ps.length → bindArgs (PySem.W.fnOf x x (defArgs st) (defBody st) (defScope st) .none kV doc pm an cdv ct) ⟨us, []⟩ = pure (ps.zip us)) : DefIn K mg x st ps :=
  ⟨f, _, fun_mk l c k, PySem.W.mg_of X G a, hb kV doc pm an cdv ct⟩
end
noncomputable def eFn (F : List D → Sto → Res D) (fs : List (Ev D)) : Ev D := fun e S => (eArgs fs e S).bind F
section
variable {cl : Str → Addr} {W : WX} {X : Cx} {a b c : Expr} {es : List Expr} {f g h : Ev D} {fs : List (Ev D)} {pos p : Pos} {x : Str}
theorem qe_fn {k : Nat} {ps : List Str} {F : List D → Sto → Res D} (G : DefOk X.prog X.w X.K X.mg X.base cl x k ps F) (hr : Room k X.A) (hg : Gl X x) (tk : L2N.Takes X W) (ha : QA cl W X (a :: es) (eArgs fs)) (hn : fs.length = ps.length := by rfl) (hdb : (x == ("__debug__" : Str)) = false := by decide)
    (he : starEach (a :: es) X.env = (false, eval a X.env) :: starEach es X.env := by rfl) (hpl : (backTo pos (starEach es X.env)).any (·.1) = false := by rfl) : QE cl W X (.Call (.Name x p) (a :: es) [] pos) (eFn F fs) := by
  obtain ⟨ff, fd, Fk, hm, hk, hbd, _⟩ := G.ex
  refine (pe_callS Fk hr hg hm hk (.all hbd) (fun σ => L2N.passAt tk σ) ha hdb he hpl).imp fun σ H Q ⟨am, e, S, rs, re, p⟩ => ?_
  exact ⟨am, e, S, rs, re, (Post.step p).imp fun xs H1 ⟨am1, S1, ds, ee, g1, rs1, rvs, p1⟩ => ⟨am1, ds, S1, by rw [eArgs_len ee, hn], rs1, rvs, p1⟩⟩
end
noncomputable def keyOf : D → Option Key
  | .int i => some (.inl i)
  | .str x => some (.inr x)
  | _ => none
noncomputable def getK (kvs : List (Key × D)) (k : Key) : Option D := (kvs.find? fun kv => decide (kv.1 = k)).map (·.2)
noncomputable def putD (kvs : List (Key × D)) (k : Key) (v : D) : List (Key × D) := if (kvs.any fun kv => decide (kv.1 = k)) = true then kvs.map (fun kv => if kv.1 = k then (kv.1, v) else kv) else kvs ++ [(k, v)]
/-- o[i]: of a list, a tuple, a text, a dict -/
noncomputable def ixD (d i : D) (S : Sto) : Res D := match dcOf S d with
  | some kvs => match keyOf i with
    | some k => opt (getK kvs k) S
    | none => .bad
  | none => match i with
    | .int j => match d with
      | .str x => if x.length ≤ sizeLine then opt ((atI x.cps.toList j).map fun c => .str ⟨#[c]⟩) S else .bad
      | d => match sqOf S d with
        | some xs => opt (atI xs j) S
        | none => .bad
    | _ => .bad
section
variable {K : PySem.W.Frag} {cl : Str → Addr} {am : AM} {H : Hp} {S : Sto}
theorem keyOf_ok {d : D} {v : V} {k : Key} (h : VR K am H d v) (e : keyOf d = some k) : v = kV k := by
  cases h with
  | int i => cases e; rfl
  | str x => cases e; rfl
  | _ => cases e
theorem VRk.get : ∀ {ds : List (Key × D)} {vs : List (Key × V)} (k : Key), VRk K am H ds vs → (getK ds k = none ∧ valV vs k = none) ∨ ∃ d v, getK ds k = some d ∧ valV vs k = some v ∧ VR K am H d v
  | _, _, k, .nil => .inl ⟨rfl, rfl⟩
  | _, _, k, .cons (k := k') (d := d) (v := v) h t => by
    by_cases e : k' = k
    · subst e
      exact .inr ⟨d, v, by simp [getK], by simp [valV], h⟩
    · have ih := VRk.get k t
      unfold getK valV at ih ⊢
      rw [List.find?_cons_of_neg (by simpa using e), List.find?_cons_of_neg (by simpa using e)]
      exact ih
theorem VRk.any {ds : List (Key × D)} {vs : List (Key × V)} (k : Key) (h : VRk K am H ds vs) : (ds.any fun kv => decide (kv.1 = k)) = (vs.any fun kv => decide (kv.1 = k)) := by
  induction ds generalizing vs with
  | nil => cases h; rfl
  | cons p ds ih =>
    cases h with
    | cons h t => rw [List.any_cons, List.any_cons, ih t]
theorem VRk.map {ds : List (Key × D)} {vs : List (Key × V)} (k : Key) {d : D} {v : V} (hv : VR K am H d v) : VRk K am H ds vs → VRk K am H (ds.map fun kv => if kv.1 = k then (kv.1, d) else kv) (vs.map fun kv => if kv.1 = k then (kv.1, v) else kv) := fun h => by
  induction ds generalizing vs with
  | nil => cases h; exact .nil
  | cons p ds ih =>
    cases h with
    | @cons k' d' v' ds vs h t =>
      rw [List.map_cons, List.map_cons]
      by_cases e : k' = k
      · simp only [e, if_true]
        exact .cons hv (ih t)
      · simp only [if_neg e]
        exact .cons h (ih t)
theorem VRk.append : ∀ {ds es : List (Key × D)} {vs us : List (Key × V)}, VRk K am H ds vs → VRk K am H es us → VRk K am H (ds ++ es) (vs ++ us)
  | _, _, _, _, .nil, h => h
  | _, _, _, _, .cons h t, h' => .cons h (VRk.append t h')
theorem VRk.put {ds : List (Key × D)} {vs : List (Key × V)} (k : Key) {d : D} {v : V} (h : VRk K am H ds vs) (hv : VR K am H d v) : VRk K am H (putD ds k d) (putK vs k v) := by
  unfold putD putK
  rw [h.any k]
  by_cases e : (vs.any fun kv => decide (kv.1 = k)) = true
  · rw [if_pos e, if_pos e]
    exact h.map k hv
  · rw [if_neg e, if_neg e]
    exact h.append (.cons hv .nil)
theorem VRk.length : ∀ {ds : List (Key × D)} {vs : List (Key × V)}, VRk K am H ds vs → ds.length = vs.length
  | _, _, .nil => rfl
  | _, _, .cons _ t => by rw [List.length_cons, List.length_cons, VRk.length t]
theorem atI_some {ds : List D} {vs : List V} {j : Int} {d : D} (h : VRs K am H ds vs) (e : atI ds j = some d) : ∃ v, atI vs j = some v ∧ VR K am H d v := by
  unfold atI at e ⊢
  rw [← h.length]
  cases q : ixN ds.length j with
  | none => rw [q] at e; cases e
  | some n => rw [q] at e; exact h.get e
end
section
variable {cl : Str → Addr} {W : WX} {X : Cx} {a b c : Expr} {es : List Expr} {f g h : Ev D} {fs : List (Ev D)} {pos p : Pos} {x : Str}
noncomputable def rKey : R2 := fun x y H Q => ∃ a v, x = .ref a ∧ DGet H a y (some v) ∧ Q v H
theorem ix_key (hu : X.A.units + 1 < cLine) : IxR X rKey := by
  intro value slice pins s σ H x y v u Q I rx ry h hs
  obtain ⟨a, vv, rfl, g, q⟩ := h
  cases rx
  have hT := dict_typeIs I g
  unfold subscriptTail
  refine wpAny_bind ?_
  rw [getitemInPython_of_ne hT.not_modules]
  refine wpAny_bind (wpAny_specialOf hT PySem.F.slot_dict_getitem.lookup ?_)
  have fin : wpAny (model X.prog X.w) X.A (subscripted slice false (.ref a) u) (fun r s₃ => wpAny (model X.prog X.w) X.A (letTemporaryGo value (.ref a) r >>= fun _ => pure r) (EP X pins σ Q) X.xe s₃) X.xe s := by
    rw [hs]
    exact wpAny_operating (wpAny_mono (d_getItem hu I g ry fun w' s' I' rw' => (⟨vv, H, I', rw', q⟩ : EP X pins σ Q w' s')) (fun r s₃ h₃ => wpAny_bind (wpAny_letTemporaryGo (wpAny_pure h₃))) fun _ _ x => x)
  first
    | exact wpAny_pure (wpAny_bind fin)
    | exact wpAny_bind (wpAny_pure (wpAny_bind fin))
    | exact wpAny_bind fin
theorem qe_ix {k : Nat} (hr : Room k X.A) (ha : QE cl W X a f) (hb : QE cl W X b g) (hs : PlainIx b := by intro _ _; rfl) : QE cl W X (.Subscript a b pos) (e2 ixD f g) :=
  (pe_ix (ix_seq.or (ix_key (hu_of hr))) ha hb hs).imp (imp_2 fun W σ am S H d e v u Q rs h1 h2 p => by
    unfold ixD at p
    cases q : dcOf S d with
    | some kvs =>
      rw [q] at p
      obtain ⟨a, vs, ev, r1, hk⟩ := dcOf_ok rs h1 q
      simp only at p
      cases q2 : keyOf e with
      | none => rw [q2] at p; exact p.elim
      | some k =>
        rw [q2] at p
        simp only at p
        have eu := keyOf_ok h2 q2
        rcases hk.get k with ⟨g1, g2⟩ | ⟨d', v', g1, g2, rv⟩
        · rw [g1] at p; exact p.elim
        · rw [g1] at p
          refine .inr ⟨a, v', ev, .inl ⟨vs, k, .inl r1, eu, g2.symm⟩, p am v' H .refl rs rv⟩
    | none =>
      rw [q] at p
      simp only at p
      cases h2 with
      | int j =>
        have seq : Post X.K cl W σ (VR X.K) am H (match sqOf S d with | some xs => opt (atI xs j) S | none => .bad) Q → rIxL X.K v (.int j) H Q ∨ rIxT X.K v (.int j) H Q ∨ rIxS v (.int j) H Q := fun p => by
          cases q3 : sqOf S d with
          | none => rw [q3] at p; exact p.elim
          | some xs =>
            rw [q3] at p
            simp only at p
            obtain ⟨a, vs, ev, hq, hs⟩ := sqOf_ok rs h1 q3
            cases q4 : atI xs j with
            | none => rw [q4] at p; exact p.elim
            | some d' =>
              rw [q4] at p
              obtain ⟨v', hv', rv⟩ := atI_some hs q4
              have := p am v' H .refl rs rv
              rcases hq with hq | hq
              · exact .inl ⟨a, vs, j, v', ev, rfl, hq, hv', this⟩
              · exact .inr (.inl ⟨a, vs, j, v', ev, rfl, hq, hv', this⟩)
        refine .inl ?_
        cases h1 with
        | str x =>
          simp only at p
          by_cases hz : x.length ≤ sizeLine
          · rw [if_pos hz] at p
            cases q4 : atI x.cps.toList j with
            | none => rw [q4] at p; exact p.elim
            | some c =>
              rw [q4] at p
              exact .inr (.inr ⟨x, j, c, rfl, rfl, hz, q4, p am _ H .refl rs (.str _)⟩)
          · rw [if_neg hz] at p
            exact p.elim
        | _ => exact seq p
      | _ => exact p.elim)
noncomputable def QP (cl : Str → Addr) (W : WX) (X : Cx) (e : Option Expr) (f : Ev (Option Int)) : Prop := PO X e (TD X.K cl W (fun _ _ a b => a = b) f)
theorem _root_.L2.PO.imp {X : Cx} {e : Option Expr} {t t' : TO} (h : PO X e t) (i : ∀ σ H Q, t' σ H Q → t σ H Q) : PO X e t' := ⟨fun pins s σ H Q I q => h.run pins s σ H Q I (i σ H Q q)⟩
noncomputable def pN : Ev (Option Int) := fun _ S => .ok none S
noncomputable def pE (f : Ev D) : Ev (Option Int) := fun e S => (f e S).bind fun d S => match d with
  | .int i => .ok (some i) S
  | _ => .bad
theorem qp_n : QP cl W X none pN := po_none.imp fun σ H Q ⟨am, e, S, rs, re, p⟩ => p am none H .refl rs rfl
theorem qp_e (ha : QE cl W X a f) : QP cl W X (some a) (pE f) := (po_some ha).imp fun σ H Q ⟨am, e, S, rs, re, p⟩ =>
  ⟨am, e, S, rs, re, (Post.step p).imp fun x H1 ⟨am1, S1, d, _, g1, rs1, rv, p1⟩ => by
    cases rv with
    | int i => exact ⟨i, rfl, p1 am1 _ H1 .refl rs1 rfl⟩
    | _ => exact p1.elim⟩
noncomputable def cutL {α : Type} (xs : List α) (lo hi : Option Int) : List α := (xs.drop (HT.sIx xs.length 0 lo)).take (HT.sIx xs.length xs.length hi - HT.sIx xs.length 0 lo)
noncomputable def slD (d : D) (lo hi : Option Int) (S : Sto) : Res D := match d with
  | .str x => if x.length ≤ sizeLine then .ok (.str (cutS x lo hi)) S else .bad
  | .tup xs => .ok (.tup (cutL xs lo hi)) S
  | d => match lsOf S d with
    | some xs => .ok (.lst (cutL xs lo hi)) S
    | none => .bad
noncomputable def eSl (f : Ev D) (p q : Ev (Option Int)) : Ev D := fun e S => (f e S).bind fun d S => (p e S).bind fun lo S => (q e S).bind fun hi S => slD d lo hi S
theorem VRs.cutL {K : PySem.W.Frag} {am : AM} {H : Hp} {ds : List D} {vs : List V} (h : VRs K am H ds vs) (lo hi : Option Int) : VRs K am H (cutL ds lo hi) (cutV vs lo hi) := by
  unfold Pu.cutL cutV
  rw [← h.length]
  exact (h.drop _).take _
theorem cutL_all {α : Type} {xs : List α} {lo hi : Option Int} (h : HT.sIx xs.length 0 lo = 0 ∧ HT.sIx xs.length xs.length hi = xs.length) : cutL xs lo hi = xs := by
  unfold cutL
  rw [h.1, h.2]
  simp
theorem qe_sl {lo hi : Option Expr} {p2 : Pos} {p q : Ev (Option Int)} (ha : QE cl W X a f) (hl : QP cl W X lo p) (hh : QP cl W X hi q) : QE cl W X (.Subscript a (.Slice lo hi none p2) pos) (eSl f p q) :=
  (pe_slice (SlR.or sl_str (SlR.or sl_tupF sl_list)) ha hl hh).imp fun σ H Q ⟨am, e, S, rs, re, p⟩ =>
    ⟨am, e, S, rs, re, (Post.step p).imp fun x H1 ⟨am1, S1, d, _, g1, rs1, rv, p1⟩ =>
      ⟨am1, e, S1, rs1, re.mono g1, (Post.step p1).imp fun l H2 ⟨am2, S2, l', _, g2, rs2, rl, p2⟩ =>
        ⟨am2, e, S2, rs2, (re.mono g1).mono g2, (Post.step p2).imp fun u H3 ⟨am3, S3, u', _, g3, rs3, ru, p3⟩ => by
          have rl : l' = l := rl
          have ru : u' = u := ru
          subst rl ru
          have rv3 := (rv.mono g2).mono g3
          have ls : Post X.K cl W σ (VR X.K) am3 H3 (match lsOf S3 d with | some xs => .ok (.lst (cutL xs l' u')) S3 | none => .bad) Q → rSlL X.K x l' u' H3 Q := fun p => by
            cases q : lsOf S3 d with
            | none => rw [q] at p; exact p.elim
            | some xs =>
              rw [q] at p
              obtain ⟨a, vs, ev, r1, hs⟩ := lsOf_ok rs3 rv3 q
              exact ⟨a, vs, ev, r1, fun q hq => p am3 _ _ (Grow.upd hq) (rs3.upd hq) (VR.lstNew rs3 (hs.cutL l' u') hq)⟩
          cases rv3 with
          | str x =>
            simp only [slD] at p3
            by_cases hz : x.length ≤ sizeLine
            · rw [if_pos hz] at p3
              exact .inl ⟨x, rfl, hz, p3 am3 _ H3 .refl rs3 (.str _)⟩
            · rw [if_neg hz] at p3
              exact p3.elim
          | @tup a vs ds h1 h2 =>
            refine .inr (.inl ⟨a, vs, rfl, h1.seq, fun hw => ?_, fun hw q ob hq hd => ?_⟩)
            · refine p3 am3 _ H3 .refl rs3 ?_
              rw [cutL_all (by rw [h2.length]; exact hw)]
              exact .tup h1 h2
            · exact p3 am3 _ _ (Grow.upd hq) (rs3.upd hq) (VR.tupNew rs3 (h2.cutL l' u') hq hd)
          | lst _ _ _ => exact .inr (.inr (ls p3))
          | fls _ _ => exact .inr (.inr (ls p3))
          | ref _ => exact .inr (.inr (ls p3))
          | _ => exact p3.elim⟩⟩⟩
end
noncomputable def flatD : D → Bool
  | .non => true
  | .bl _ => true
  | .int _ => true
  | .str _ => true
  | _ => false
noncomputable def fEq : D → D → Bool
  | .non, .non => true
  | .bl a, .bl b => a == b
  | .bl a, .int b => (if a then 1 else 0) == b
  | .int a, .bl b => a == (if b then 1 else 0)
  | .int a, .int b => a == b
  | .str a, .str b => a == b
  | _, _ => false
noncomputable def inD (neg : Bool) (d o : D) (S : Sto) : Res D := match dcOf S o with
  | some kvs => match keyOf d with
    | some k => .ok (.bl (if neg = true then !(getK kvs k).isSome else (getK kvs k).isSome)) S
    | none => .bad
  | none => match o with
    | .str y => match d with
      | .str x => .ok (.bl (if neg = true then !(!(Builtin.Str.occurrences y x 0 y.length 1).isEmpty) else !(Builtin.Str.occurrences y x 0 y.length 1).isEmpty)) S
      | _ => .bad
    | .tup xs => if flatD d = true ∧ xs.all flatD = true then .ok (.bl (if neg = true then !(xs.any fun z => fEq z d) else xs.any fun z => fEq z d)) S else .bad
    | o => match lsOf S o with
      | some xs => if SeqAt.shaped d.py = true ∧ SeqAt.shaped (.list (pys xs)) = true then .ok (.bl (if neg = true then !((pys xs).any fun z => PyData.eqv z d.py) else (pys xs).any fun z => PyData.eqv z d.py)) S else .bad
      | none => .bad
section
variable {K : PySem.W.Frag} {cl : Str → Addr} {am : AM} {H : Hp} {S : Sto}
theorem flat_ok {d : D} {v : V} (h : VR K am H d v) (f : flatD d = true) : flatV v = true := by
  cases h <;> first | rfl | cases f
theorem flats_ok : ∀ {ds : List D} {vs : List V}, VRs K am H ds vs → ds.all flatD = true → vs.all flatV = true
  | _, _, .nil, _ => rfl
  | _, _, .cons h t, f => by
    rw [List.all_cons, Bool.and_eq_true] at f
    rw [List.all_cons, flat_ok h f.1, flats_ok t f.2]
    rfl
theorem fEq_ok {d e : D} {v u : V} (h : VR K am H d v) (h' : VR K am H e u) : fEq d e = eqV v u := by
  cases h <;> cases h' <;> rfl
theorem any_ok {d : D} {v : V} (h : VR K am H d v) : ∀ {ds : List D} {vs : List V}, VRs K am H ds vs → (ds.any fun z => fEq z d) = inV v vs
  | _, _, .nil => rfl
  | _, _, .cons h1 t => by
    have ih := any_ok h t
    unfold inV at ih ⊢
    rw [List.any_cons, List.any_cons, ih, fEq_ok h1 h]
theorem lsOf_py (r : RelS K cl am S H) {d : D} {v : V} (h : VR K am H d v) {xs : List D} (e : lsOf S d = some xs) (q : PyData.canLayAll0 (pys xs) = true) : Dp K H v (.list (pys xs)) := by
  obtain ⟨a, vs, ev, r1, hs⟩ := lsOf_ok r h e
  subst ev
  exact .lst r1 (hs.dp q)
end
section
variable {cl : Str → Addr} {W : WX} {X : Cx} {a b c : Expr} {es : List Expr} {f g h : Ev D} {fs : List (Ev D)} {pos p : Pos} {x : Str}
noncomputable def rKeyIn : R2 := fun y x H Q => ∃ a o, x = .ref a ∧ DGet H a y o ∧ Q (.bl o.isSome) H
noncomputable def rKeyNotIn : R2 := fun y x H Q => ∃ a o, x = .ref a ∧ DGet H a y o ∧ Q (.bl (!o.isSome)) H
theorem op_inK (hu : X.A.units + 1 < cLine) : OpR X (compareOp .In) rKeyIn := by
  intro pins s σ H y x v u Q I ry rx h
  obtain ⟨a, o, rfl, g, q⟩ := h
  cases rx
  exact d_in hu I g ry fun s3 I3 => ⟨.bl o.isSome, H, I3, rfl, q⟩
theorem op_notInK (hu : X.A.units + 1 < cLine) : OpR X (compareOp .NotIn) rKeyNotIn := by
  intro pins s σ H y x v u Q I ry rx h
  obtain ⟨a, o, rfl, g, q⟩ := h
  cases rx
  exact d_notIn hu I g ry fun s3 I3 => ⟨.bl (!o.isSome), H, I3, rfl, q⟩
theorem units65 {k : Nat} {A : Around} (r : Room k A) : A.units + 65 < cLine := by have := r.un; omega
noncomputable def rInA (K : PySem.W.Frag) : R2 := fun x y H Q => rKeyIn x y H Q ∨ (∃ i j, x = .str i ∧ y = .str j ∧ Q (.bl (!(Builtin.Str.occurrences j i 0 j.length 1).isEmpty)) H) ∨ rIn K false x y H Q ∨ rInD K x y H Q
noncomputable def rNotInA (K : PySem.W.Frag) : R2 := fun x y H Q => rKeyNotIn x y H Q ∨ (∃ i j, x = .str i ∧ y = .str j ∧ Q (.bl (!(!(Builtin.Str.occurrences j i 0 j.length 1).isEmpty))) H) ∨ rIn K true x y H Q ∨ rNotInD K x y H Q
theorem op_inA {k : Nat} (hr : Room k X.A) : OpR X (compareOp .In) (rInA X.K) := OpR.or (op_inK (hu_of hr)) (OpR.or op_in_str (OpR.or op_in_seq (op_inD (units65 hr))))
theorem op_notInA {k : Nat} (hr : Room k X.A) : OpR X (compareOp .NotIn) (rNotInA X.K) := OpR.or (op_notInK (hu_of hr)) (OpR.or op_notin_str (OpR.or op_notIn_seq (op_notInD (units65 hr))))
theorem ok_in (neg : Bool) : Ok2 X.K cl (fun x y H Q => if neg = true then rNotInA X.K x y H Q else rInA X.K x y H Q) (inD neg) := by
  intro W σ am S H d o v u Q rs h1 h2 p
  unfold inD at p
  cases q : dcOf S o with
  | some kvs =>
    rw [q] at p
    obtain ⟨a, vs, ev, r1, hk⟩ := dcOf_ok rs h2 q
    simp only at p
    cases q2 : keyOf d with
    | none => rw [q2] at p; exact p.elim
    | some k =>
      rw [q2] at p
      have eu := keyOf_ok h1 q2
      have e : (getK kvs k).isSome = (valV vs k).isSome := by
        rcases hk.get k with ⟨g1, g2⟩ | ⟨d', v', g1, g2, rv⟩
        · rw [g1, g2]
          rfl
        · rw [g1, g2]
          rfl
      have p' := p am _ H .refl rs (.bl _)
      rw [e] at p'
      cases neg with
      | true => exact .inl ⟨a, _, ev, .inl ⟨vs, k, .inl r1, eu, rfl⟩, p'⟩
      | false => exact .inl ⟨a, _, ev, .inl ⟨vs, k, .inl r1, eu, rfl⟩, p'⟩
  | none =>
    rw [q] at p
    have ls : Post X.K cl W σ (VR X.K) am H (match lsOf S o with
      | some xs => if SeqAt.shaped d.py = true ∧ SeqAt.shaped (.list (pys xs)) = true then .ok (.bl (if neg = true then !((pys xs).any fun z => PyData.eqv z d.py) else (pys xs).any fun z => PyData.eqv z d.py)) S else .bad
      | none => .bad) Q → if neg = true then rNotInA X.K v u H Q else rInA X.K v u H Q := fun p => by
      cases q3 : lsOf S o with
      | none => rw [q3] at p; exact p.elim
      | some xs =>
        rw [q3] at p
        simp only at p
        by_cases hc : SeqAt.shaped d.py = true ∧ SeqAt.shaped (.list (pys xs)) = true
        · rw [if_pos hc] at p
          have p' := p am _ H .refl rs (.bl _)
          have hd := h1.dp (SeqAt.canLay_of_shaped hc.1)
          have hl := lsOf_py rs h2 q3 (by simpa [PyData.canLay0] using SeqAt.canLay_of_shaped hc.2)
          cases neg with
          | true => exact .inr (.inr (.inr ⟨_, _, hd, hl, hc.1, hc.2, p'⟩))
          | false => exact .inr (.inr (.inr ⟨_, _, hd, hl, hc.1, hc.2, p'⟩))
        · rw [if_neg hc] at p
          exact p.elim
    cases h2 with
    | str y =>
      cases h1 with
      | str x =>
        have p' := p am _ H .refl rs (.bl _)
        cases neg with
        | true => exact .inr (.inl ⟨x, y, rfl, rfl, p'⟩)
        | false => exact .inr (.inl ⟨x, y, rfl, rfl, p'⟩)
      | _ => exact p.elim
    | @tup a vs xs t hs =>
      simp only at p
      by_cases hc : flatD d = true ∧ xs.all flatD = true
      · rw [if_pos hc] at p
        have p' := p am _ H .refl rs (.bl _)
        rw [any_ok h1 hs] at p'
        cases neg with
        | true => exact .inr (.inr (.inl ⟨a, vs, rfl, .inr t.seq, flat_ok h1 hc.1, flats_ok hs hc.2, p'⟩))
        | false => exact .inr (.inr (.inl ⟨a, vs, rfl, .inr t.seq, flat_ok h1 hc.1, flats_ok hs hc.2, p'⟩))
      · rw [if_neg hc] at p
        exact p.elim
    | lst h1 h2 h3 => exact ls p
    | fls h1 h3 => exact ls p
    | ref h1 => exact ls p
    | _ => exact p.elim
theorem qe_in {k : Nat} (hr : Room k X.A) (ha : QE cl W X a f) (hb : QE cl W X b g) (hm : behindInMarks .In b = false := by rfl) : QE cl W X (.Compare a [.In] [b] pos) (e2 (inD false) f g) := qe_cmp (op_inA hr) (ok_in false) ha hb hm
theorem qt_in {k : Nat} (hr : Room k X.A) (ha : QE cl W X a f) (hb : QE cl W X b g) (hm : behindInMarks .In b = false := by rfl) : QT cl W X (.Compare a [.In] [b] pos) (eTB (e2 (inD false) f g)) := qt_cmp (op_inA hr) (ok_in false) ha hb hm
theorem qt_notIn {k : Nat} (hr : Room k X.A) (ha : QE cl W X a f) (hb : QE cl W X b g) (hm : behindInMarks .NotIn b = false := by rfl) : QT cl W X (.Compare a [.NotIn] [b] pos) (eTB (e2 (inD true) f g)) := qt_cmp (op_notInA hr) (ok_in true) ha hb hm
end
end Pu
set_option Elab.async false
set_option linter.all false
set_option maxRecDepth 100000
namespace Pu
open PySem PySem.Spec PyProof.Rows L2
/-- what is written into an object of the store -/
noncomputable def stD (o i v : D) (S : Sto) : Option Sto := match o with
  | .ref k => match S[k]? with
    | some (.lst xs) => match i with
      | .int j => (ixN xs.length j).map fun n => S.set k (.lst (xs.set n v))
      | _ => none
    | some (.dct kvs) => (keyOf i).bind fun q => if kvs.length < sizeLine then some (S.set k (.dct (putD kvs q v))) else none
    | _ => none
  | _ => none
/-- o[i] = v -/
noncomputable def sSt (f fo fi : Ev D) : Stm := fun e S => (f e S).stm e fun v S => (fo e S).stm e fun o S => (fi e S).stm e fun i S => match stD o i v S with
  | some S' => .next e S'
  | none => .bad
noncomputable def rSetA : TSet := fun o i v H Q => rSetL o i v H Q ∨ ∃ a H', o = .ref a ∧ DPut H a i v H' ∧ Q H'
section
variable {cl : Str → Addr} {W : WX} {X : Cx} {a b c : Expr} {es : List Expr} {f g h : Ev D} {fs : List (Ev D)} {pos p tpos : Pos} {x : Str}
theorem set_A (hu : X.A.units + 1 < cLine) : PSet X rSetA := by
  intro pins s σ H o i v ov iv u Q I ro ri rv h
  rcases h with h | ⟨a, H', rfl, g, q⟩
  · exact set_list pins s σ H o i v ov iv u Q I ro ri rv h
  · cases ro
    exact d_setItem hu I g ri rv fun s4 I4 => ⟨H', I4, q⟩
theorem st_ok {am : AM} {S S' : Sto} {H : Hp} {o i v : D} {ov iv vv : V} {Q : Hp → Prop} (rs : RelS X.K cl am S H) (h1 : VR X.K am H o ov) (h2 : VR X.K am H i iv) (h3 : VR X.K am H v vv) (e : stD o i v S = some S')
    (q : ∀ H', Grow am am H H' → RelS X.K cl am S' H' → Q H') : rSetA ov iv vv H Q := by
  cases h1 with
  | @ref k a hk =>
    simp only [stD] at e
    cases e1 : S[k]? with
    | none => rw [e1] at e; cases e
    | some ob =>
      rw [e1] at e
      cases ob with
      | lst xs =>
        obtain ⟨vs, r1, r2⟩ := rs.ob k _ a e1 hk
        cases h2 with
        | int j =>
          simp only at e
          cases e2 : ixN xs.length j with
          | none => rw [e2] at e; cases e
          | some n =>
            rw [e2] at e
            cases e
            have hm : a ∈ am.ad := List.mem_of_getElem? hk
            exact .inl ⟨a, vs, j, n, rfl, rfl, r1, by rw [← r2.length]; exact e2, q _ (Grow.put hm) (rs.put hk ⟨_, upd_same, (r2.setA n h3).mono (Grow.put hm)⟩)⟩
        | _ => cases e
      | dct kvs =>
        obtain ⟨vs, r1, r2⟩ := rs.ob k _ a e1 hk
        simp only at e
        cases e2 : keyOf i with
        | none => rw [e2] at e; cases e
        | some ky =>
          rw [e2] at e
          simp only [Option.bind_some] at e
          by_cases hz : kvs.length < sizeLine
          · rw [if_pos hz] at e
            cases e
            have hm : a ∈ am.ad := List.mem_of_getElem? hk
            exact .inr ⟨a, _, rfl, .inl ⟨vs, ky, r1, keyOf_ok h2 e2, by rw [← r2.length]; exact hz, rfl⟩, q _ (Grow.put hm) (rs.put hk ⟨_, upd_same, (r2.put ky h3).mono (Grow.put hm)⟩)⟩
          · rw [if_neg hz] at e
            cases e
      | ins c fs => cases e
  | _ => cases e
theorem qs_st {k : Nat} (hr : Room k X.A) (ha : QE cl W X a f) (hb : QE cl W X b g) (hc : QE cl W X c h) (hs : swapsWithSole [.Subscript b c tpos] a pos.line X.env = pure false := by rfl) (hw : swappedStores [.Subscript b c tpos] a X.env = pure none := by rfl)
    (h1 : (assignEach [.Subscript b c tpos] X.env).map (·.2) = [assign (.Subscript b c tpos) X.env] := by rfl)
    (h2 : ∀ v, assign (.Subscript b c tpos) X.env v = (do
      let ov ← holding [v] (eval b X.env)
      let iv ← holding [v, ov] (eval c X.env)
      standAt tpos
      holding [v, ov, iv] (setItem ov iv v)
      release [v, ov, iv] []) := by intro _; rfl) : QS cl W X (.Assign [.Subscript b c tpos] a pos) (sSt f g h) :=
  (ps_asg ha (pg_sub hb hc (set_A (hu_of hr)) h2) hs hw h1).imp fun E σ H ⟨am, e, S, rs, re, p⟩ =>
    ⟨am, e, S, rs, re, (PostS.step re p).imp fun x H1 ⟨am1, S1, d1, _, g1, rs1, rv1, p1⟩ =>
      ⟨am1, e, S1, rs1, re.mono g1, (PostS.step (re.mono g1) p1).imp fun y H2 ⟨am2, S2, d2, _, g2, rs2, rv2, p2⟩ =>
        ⟨am2, e, S2, rs2, (re.mono g1).mono g2, (PostS.step ((re.mono g1).mono g2) p2).imp fun z H3 ⟨am3, S3, d3, _, g3, rs3, rv3, p3⟩ => by
          cases q : stD d2 d3 d1 S3 with
          | none => simp only [q] at p3; exact p3.elim
          | some S' =>
            simp only [q] at p3
            exact st_ok rs3 (rv2.mono g3) rv3 ((rv1.mono g2).mono g3) q fun H' g4 rs4 => p3 am3 σ H' g4 rs4 ((((re.mono g1).mono g2).mono g3).mono g4)⟩⟩⟩
/-- name op= e -/
noncomputable def sAug (op : D → D → Sto → Res D) (i : Nat) (f : Ev D) : Stm := fun e S => (eVar i e S).stm e fun x S => (f e S).stm e fun y S => (op x y S).stm e fun z S => .next (e.set i (some z)) S
noncomputable def OkM (K : PySem.W.Frag) (cl : Str → Addr) (T : String) (r : V → List V → Hp → VK → Prop) (op : D → List D → Sto → Res D) : Prop :=
  ∀ (W : WX) (σ : L2.St) (am : AM) (S : Sto) (H : Hp) (o : D) (ds : List D) (x : V) (vs : List V) (Q : VK), RelS K cl am S H → VR K am H o x → VRs K am H ds vs → Post K cl W σ (VR K) am H (op o ds S) Q → r x vs H Q
/-- of the receiver, ahead of the arguments -/
noncomputable def isT (T : String) (o : D) (S : Sto) : Prop := match o with
  | .str _ => T = "str"
  | .int _ => T = "int"
  | o => (T = "list" ∧ (lsOf S o).isSome = true) ∨ (T = "dict" ∧ (dcOf S o).isSome = true)
noncomputable instance (T : String) (o : D) (S : Sto) : Decidable (isT T o S) := by unfold isT; cases o <;> infer_instance
theorem isT_ok {K : PySem.W.Frag} {am : AM} {S : Sto} {H : Hp} {T : String} {o : D} {x : V} (rs : RelS K cl am S H) (h : VR K am H o x) (t : isT T o S) : tyV K T x H := by
  have oth : ((T = "list" ∧ (lsOf S o).isSome = true) ∨ (T = "dict" ∧ (dcOf S o).isSome = true)) → tyV K T x H := fun t => by
    rcases t with ⟨e, t⟩ | ⟨e, t⟩
    · obtain ⟨xs, q⟩ := Option.isSome_iff_exists.mp t
      obtain ⟨a, vs, ev, r1, _⟩ := lsOf_ok rs h q
      subst ev
      exact .inl ⟨e, vs, r1⟩
    · obtain ⟨xs, q⟩ := Option.isSome_iff_exists.mp t
      obtain ⟨a, vs, ev, r1, _⟩ := dcOf_ok rs h q
      subst ev
      exact .inr (.inr (.inl ⟨e, .inl ⟨vs, r1⟩⟩))
  cases h with
  | str x => exact t
  | int i => exact t
  | non => rcases t with ⟨_, t⟩ | ⟨_, t⟩ <;> cases t
  | bl b => rcases t with ⟨_, t⟩ | ⟨_, t⟩ <;> cases t
  | tup _ _ => rcases t with ⟨_, t⟩ | ⟨_, t⟩ <;> cases t
  | _ => exact oth t
noncomputable def eM (T : String) (op : D → List D → Sto → Res D) (fo : Ev D) (fs : List (Ev D)) : Ev D := fun e S => (fo e S).bind fun o S => if isT T o S then (eArgs fs e S).bind fun ds S => op o ds S else .bad
variable {o : Expr} {name : Str} {apos cpos : Pos} {T id : String} {r : V → List V → Hp → VK → Prop} {op : D → List D → Sto → Res D}
theorem qe_bm (pa : PlainAttrs T) (slot : Slot T name id) (hty : typeOf (.builtin id) = pure (.type "method_descriptor")) (hm : MtR X id r) (ok : OkM X.K cl T r op) (ho : QE cl W X o g) (ha : QA cl W X (a :: es) (eArgs fs))
    (hbase : attributeBase o name X.env (eval o X.env) = eval o X.env := by rfl)
    (hfew : ((backTo cpos (starEach (a :: es) X.env)).all (fun x => !x.1) && (backToKw cpos (keywordEach [] X.env)).all (fun x => x.1.isSome)
      && decide ((a :: es).length + ([] : List Keyword).length + (if ([] : List Keyword).isEmpty then 0 else 1) < 30)) = true := by rfl)
    (hline : (apos.endLine == cpos.line) = true := by rfl) (hs : starEach (a :: es) X.env = (false, eval a X.env) :: starEach es X.env := by rfl) (hplain : (backTo cpos (starEach es X.env)).any (·.1) = false := by rfl) :
    QE cl W X (.Call (.Attribute o name apos) (a :: es) [] cpos) (eM T op g fs) := (pe_bm pa slot hty hm ho ha hbase hfew hline hs hplain).imp fun σ H Q ⟨am, e, S, rs, re, p⟩ =>
  ⟨am, e, S, rs, re, (Post.step p).imp fun x H1 ⟨am1, S1, d1, _, g1, rs1, rv1, p1⟩ => by
    by_cases ht : isT T d1 S1
    · rw [if_pos ht] at p1
      exact ⟨isT_ok rs1 rv1 ht, am1, e, S1, rs1, re.mono g1, (Post.step p1).imp fun vs H2 ⟨am2, S2, ds, _, g2, rs2, rvs, p2⟩ => ok W σ am2 S2 H2 d1 ds x vs Q rs2 (rv1.mono g2) rvs p2⟩
    · rw [if_neg ht] at p1
      exact p1.elim⟩
/-- xs.append(y) -/
noncomputable def appD (o : D) (ds : List D) (S : Sto) : Res D := match o, ds with
  | .ref k, [y] => match S[k]? with
    | some (.lst xs) => if xs.length < sizeLine then .ok .non (S.set k (.lst (xs ++ [y]))) else .bad
    | _ => .bad
  | _, _ => .bad
theorem ok_app : OkM X.K cl "list" rAppend appD := by
  intro W σ am S H o ds x vs Q rs h1 h2 p
  cases h1 with
  | @ref k a hk =>
    cases h2 with
    | nil => exact p.elim
    | cons r1 r2 =>
      cases r2 with
      | cons _ _ => exact p.elim
      | nil =>
        simp only [appD] at p
        cases e1 : S[k]? with
        | none => rw [e1] at p; exact p.elim
        | some ob =>
          rw [e1] at p
          cases ob with
          | lst xs =>
            obtain ⟨us, q1, q2⟩ := rs.ob k _ a e1 hk
            simp only at p
            by_cases hz : xs.length < sizeLine
            · rw [if_pos hz] at p
              have hm : a ∈ am.ad := List.mem_of_getElem? hk
              exact ⟨a, us, _, rfl, rfl, q1, by rw [← q2.length]; exact hz, p am _ _ (Grow.put hm) (rs.put hk ⟨_, upd_same, (q2.append (.cons r1 .nil)).mono (Grow.put hm)⟩) .non⟩
            · rw [if_neg hz] at p
              exact p.elim
          | _ => exact p.elim
  | _ => exact p.elim
theorem qe_append (ho : QE cl W X o g) (ha : QE cl W X a f) (h0 : starEach [a] X.env = (false, eval a X.env) :: starEach [] X.env := by rfl)
    (hbase : attributeBase o "append" X.env (eval o X.env) = eval o X.env := by rfl)
    (hfew : ((backTo cpos (starEach [a] X.env)).all (fun x => !x.1) && (backToKw cpos (keywordEach [] X.env)).all (fun x => x.1.isSome)
      && decide (([a] : List Expr).length + ([] : List Keyword).length + (if ([] : List Keyword).isEmpty then 0 else 1) < 30)) = true := by rfl)
    (hline : (apos.endLine == cpos.line) = true := by rfl) (hplain : (backTo cpos (starEach [] X.env)).any (·.1) = false := by rfl) :
    QE cl W X (.Call (.Attribute o "append" apos) [a] [] cpos) (eM "list" appD g [f]) := qe_bm PySem.F.plainAttrs_list PySem.F.slot_list_append PySem.F.type_list_append mt_append ok_app ho (qa_cons ha qa_nil h0) hbase hfew hline h0 hplain
noncomputable def lenD (ds : List D) (S : Sto) : Res D := match ds with
  | [d] => match dcOf S d with
    | some kvs => match d with
      | .fls _ => .bad
      | _ => .ok (.int kvs.length) S
    | none => match d with
      | .str x => if x.length ≤ sizeLine then .ok (.int x.length) S else .bad
      | d => match sqOf S d with
        | some xs => .ok (.int xs.length) S
        | none => .bad
  | _ => .bad
theorem call_lenA : CallR X (.builtin "len") (fun xs H Q => (∃ x n, xs = [x] ∧ LenV X.K x H n ∧ Q (.int n) H) ∨ ∃ a kvs, xs = [V.ref a] ∧ H a = some (.dK kvs) ∧ Q (.int kvs.length) H) := CallR.or call_len call_lenD
theorem ok_len : OkN X.K cl (fun xs H Q => (∃ x n, xs = [x] ∧ LenV X.K x H n ∧ Q (.int n) H) ∨ ∃ a kvs, xs = [V.ref a] ∧ H a = some (.dK kvs) ∧ Q (.int kvs.length) H) lenD := by
  intro W σ am S H ds vs Q rs h p
  cases h with
  | nil => exact p.elim
  | @cons d v ds vs r1 r2 =>
    cases r2 with
    | cons _ _ => exact p.elim
    | nil =>
      simp only [lenD] at p
      cases q : dcOf S d with
      | some kvs =>
        rw [q] at p
        obtain ⟨a, us, ev, q1, q2⟩ := dcOf_ok rs r1 q
        subst ev
        refine .inr ⟨a, us, rfl, q1, ?_⟩
        rw [← q2.length]
        cases r1 with
        | fls _ _ => cases q
        | _ => exact p am _ H .refl rs (.int _)
      | none =>
        rw [q] at p
        have sq : Post X.K cl W σ (VR X.K) am H (match sqOf S d with | some xs => .ok (.int xs.length) S | none => .bad) Q → ∃ x n, [v] = [x] ∧ LenV X.K x H n ∧ Q (.int n) H := fun p => by
          cases q3 : sqOf S d with
          | none => rw [q3] at p; exact p.elim
          | some xs =>
            rw [q3] at p
            obtain ⟨a, us, ev, hq, hs⟩ := sqOf_ok rs r1 q3
            subst ev
            refine ⟨_, xs.length, rfl, ?_, p am _ H .refl rs (.int _)⟩
            rcases hq with hq | hq
            · exact .inl ⟨us, hq, hs.length⟩
            · exact .inr ⟨us, hq, hs.length⟩
        cases r1 with
        | str x =>
          simp only at p
          by_cases hz : x.length ≤ sizeLine
          · rw [if_pos hz] at p
            exact .inl ⟨_, x.length, rfl, ⟨hz, rfl⟩, p am _ H .refl rs (.int _)⟩
          · rw [if_neg hz] at p
            exact p.elim
        | _ => exact .inl (sq p)
/-- int of a truth or a number -/
noncomputable def int1D (ds : List D) (S : Sto) : Res D := match ds with
  | [.int i] => .ok (.int i) S
  | [.bl b] => .ok (.int (if b then 1 else 0)) S
  | _ => .bad
theorem ok_int1 : OkN X.K cl (fun xs H Q => (∃ i, xs = [.int i] ∧ Q (.int i) H) ∨ ∃ k, xs = [.bl k] ∧ Q (.int (if k then 1 else 0)) H) int1D := by
  intro W σ am S H ds vs Q rs h p
  cases h with
  | nil => exact p.elim
  | cons r1 r2 =>
    cases r2 with
    | cons _ _ => cases r1 <;> exact p.elim
    | nil =>
      cases r1 with
      | int i => exact .inl ⟨i, rfl, p am _ H .refl rs (.int _)⟩
      | bl b => exact .inr ⟨b, rfl, p am _ H .refl rs (.int _)⟩
      | _ => exact p.elim
/-- tuple of a list or a tuple -/
noncomputable def tupD (ds : List D) (S : Sto) : Res D := match ds with
  | [d] => match sqOf S d with
    | some xs => .ok (.tup xs) S
    | none => .bad
  | _ => .bad
theorem ok_tup : OkN X.K cl (fun xs H Q => ∃ p ys, xs = [.ref p] ∧ ((SqL X.K H p ys ∧ NT ys H Q) ∨ (SqT X.K H p ys ∧ Q (.ref p) H))) tupD := by
  intro W σ am S H ds vs Q rs h p
  cases h with
  | nil => exact p.elim
  | @cons d v ds vs r1 r2 =>
    cases r2 with
    | cons _ _ => exact p.elim
    | nil =>
      simp only [tupD] at p
      have ls : Post X.K cl W σ (VR X.K) am H (match lsOf S d with | some xs => .ok (.tup xs) S | none => .bad) Q → ∃ p ys, [v] = [.ref p] ∧ ((SqL X.K H p ys ∧ NT ys H Q) ∨ (SqT X.K H p ys ∧ Q (.ref p) H)) := fun p => by
        cases q : lsOf S d with
        | none => rw [q] at p; exact p.elim
        | some xs =>
          rw [q] at p
          obtain ⟨a, us, ev, q1, q2⟩ := lsOf_ok rs r1 q
          subst ev
          exact ⟨a, us, rfl, .inl ⟨q1, fun l ob hl hd => p am _ _ (Grow.upd hl) (rs.upd hl) (VR.tupNew rs q2 hl hd)⟩⟩
      cases r1 with
      | @tup a us xs t hs => exact ⟨a, us, rfl, .inr ⟨t.seq, p am _ H .refl rs (.tup t hs)⟩⟩
      | lst _ _ _ => exact ls p
      | fls _ _ => exact ls p
      | ref _ => exact ls p
      | _ => exact p.elim
/-- all, any of a list of truths -/
noncomputable def bools : List D → Option (List Bool)
  | [] => some []
  | .bl b :: xs => (bools xs).map (b :: ·)
  | _ :: _ => none
noncomputable def intsL : List D → Option (List Int)
  | [] => some []
  | .int b :: xs => (intsL xs).map (b :: ·)
  | _ :: _ => none
@[simp] theorem bools_map (bs : List Bool) : bools (bs.map D.bl) = some bs := by
  induction bs with
  | nil => rfl
  | cons b bs ih => rw [List.map_cons]; simp only [bools, ih, Option.map_some]
@[simp] theorem ints_map (bs : List Int) : intsL (bs.map D.int) = some bs := by
  induction bs with
  | nil => rfl
  | cons b bs ih => rw [List.map_cons]; simp only [intsL, ih, Option.map_some]
theorem bools_ok {K : PySem.W.Frag} {am : AM} {H : Hp} : ∀ {ds : List D} {vs : List V} {bs : List Bool}, VRs K am H ds vs → bools ds = some bs → vs = bs.map V.bl
  | _, _, _, .nil, e => by cases e; rfl
  | _, _, _, .cons (ds := ds) h t, e => by
    cases h with
    | bl b =>
      simp only [bools] at e
      cases q : bools ds with
      | none => rw [q] at e; cases e
      | some bs =>
        rw [q] at e
        cases e
        rw [List.map_cons, bools_ok t q]
    | _ => cases e
noncomputable def boolsD (f : List Bool → Bool) (ds : List D) (S : Sto) : Res D := match ds with
  | [d] => match (lsOf S d).bind bools with
    | some bs => .ok (.bl (f bs)) S
    | none => .bad
  | _ => .bad
theorem ok_bools {fb : List Bool → Bool} {r : List V → Hp → VK → Prop} (hr : ∀ a bs H Q, SqL X.K H a (bs.map V.bl) → Q (.bl (fb bs)) H → r [.ref a] H Q) : OkN X.K cl r (boolsD fb) := by
  intro W σ am S H ds vs Q rs h p
  cases h with
  | nil => exact p.elim
  | @cons d v ds vs r1 r2 =>
    cases r2 with
    | cons _ _ => exact p.elim
    | nil =>
      simp only [boolsD] at p
      cases q : lsOf S d with
      | none => simp only [q, Option.bind_none] at p; exact p.elim
      | some xs =>
        simp only [q, Option.bind_some] at p
        cases q2 : bools xs with
        | none => rw [q2] at p; exact p.elim
        | some bs =>
          rw [q2] at p
          obtain ⟨a, us, ev, q1, q3⟩ := lsOf_ok rs r1 q
          subst ev
          have e := bools_ok q3 q2
          subst e
          exact hr a bs H Q q1 (p am _ H .refl rs (.bl _))
theorem ok_all : OkN X.K cl (rAll X.K) (boolsD fun bs => bs.all _root_.id) := ok_bools fun a bs H Q h q => ⟨a, bs, rfl, h, q⟩
/-- of two whole numbers -/
noncomputable def ii2D (f : Int → Int → Int) (ds : List D) (S : Sto) : Res D := match ds with
  | [.int i, .int j] => .ok (.int (f i j)) S
  | _ => .bad
theorem ok_ii2 {fi : Int → Int → Int} {r : List V → Hp → VK → Prop} (hr : ∀ i j H Q, Q (.int (fi i j)) H → r [.int i, .int j] H Q) : OkN X.K cl r (ii2D fi) := by
  intro W σ am S H ds vs Q rs h p
  cases h with
  | nil => exact p.elim
  | cons r1 r2 =>
    cases r2 with
    | nil => cases r1 <;> exact p.elim
    | cons r2 r3 =>
      cases r3 with
      | nil =>
        cases r1 with
        | int i =>
          cases r2 with
          | int j => exact hr i j H Q (p am _ H .refl rs (.int _))
          | _ => exact p.elim
        | _ => cases r2 <;> exact p.elim
      | cons _ _ => cases r1 <;> cases r2 <;> exact p.elim
noncomputable def maxI (i j : Int) : Int := if j > i then j else i
noncomputable def minI (i j : Int) : Int := if j < i then j else i
noncomputable def absD (ds : List D) (S : Sto) : Res D := match ds with
  | [.int i] => .ok (.int (if i < 0 then -i else i)) S
  | _ => .bad
theorem ok_abs : OkN X.K cl (fun xs H Q => ∃ i, xs = [.int i] ∧ Q (.int (if i < 0 then -i else i)) H) absD := by
  intro W σ am S H ds vs Q rs h p
  cases h with
  | nil => exact p.elim
  | cons r1 r2 =>
    cases r2 with
    | cons _ _ => cases r1 <;> exact p.elim
    | nil =>
      cases r1 with
      | int i => exact ⟨i, rfl, p am _ H .refl rs (.int _)⟩
      | _ => exact p.elim
variable (hm : X.mg x = none)
/-- calls by name -/
theorem qe_len (hg : Gl X "len") (hm : X.mg "len" = none) (ha : QA cl W X [a] (eArgs fs)) (he : starEach [a] X.env = (false, eval a X.env) :: starEach [] X.env := by rfl) (hpl : (backTo pos (starEach [] X.env)).any (·.1) = false := by rfl) : QE cl W X (.Call (.Name "len" p) [a] [] pos) (eCall lenD fs) := qe_callB call_lenA ok_len hg hm PySem.boot_len ha (by decide) (by decide) he hpl
theorem qe_intOf (hg : Gl X "int") (hm : X.mg "int" = none) (ha : QA cl W X [a] (eArgs fs)) (he : starEach [a] X.env = (false, eval a X.env) :: starEach [] X.env := by rfl) (hpl : (backTo pos (starEach [] X.env)).any (·.1) = false := by rfl) : QE cl W X (.Call (.Name "int" p) [a] [] pos) (eCall int1D fs) := qe_callT call_int1 ok_int1 hg hm (by decide +kernel) ha (by decide) (by decide) he hpl
theorem qe_tuple (hg : Gl X "tuple") (hm : X.mg "tuple" = none) (ha : QA cl W X [a] (eArgs fs)) (he : starEach [a] X.env = (false, eval a X.env) :: starEach [] X.env := by rfl) (hpl : (backTo pos (starEach [] X.env)).any (·.1) = false := by rfl) : QE cl W X (.Call (.Name "tuple" p) [a] [] pos) (eCall tupD fs) := qe_callT cr_tupleF ok_tup hg hm (by decide +kernel) ha (by decide) (by decide) he hpl
theorem qe_all (hc : X.calm = true) (hg : Gl X "all") (hm : X.mg "all" = none) (ha : QA cl W X [a] (eArgs fs)) (he : starEach [a] X.env = (false, eval a X.env) :: starEach [] X.env := by rfl) (hpl : (backTo pos (starEach [] X.env)).any (·.1) = false := by rfl) : QE cl W X (.Call (.Name "all" p) [a] [] pos) (eCall (boolsD fun bs => bs.all _root_.id) fs) := qe_callB (cr_all hc) ok_all hg hm (by decide +kernel) ha (by decide) (by decide) he hpl
theorem qe_abs (hg : Gl X "abs") (hm : X.mg "abs" = none) (ha : QA cl W X [a] (eArgs fs)) (he : starEach [a] X.env = (false, eval a X.env) :: starEach [] X.env := by rfl) (hpl : (backTo pos (starEach [] X.env)).any (·.1) = false := by rfl) : QE cl W X (.Call (.Name "abs" p) [a] [] pos) (eCall absD fs) := qe_callB call_abs ok_abs hg hm (by decide +kernel) ha (by decide) (by decide) he hpl
theorem qe_max2 (hc : X.calm = true) (hg : Gl X "max") (hm : X.mg "max" = none) (ha : QA cl W X [a, b] (eArgs fs)) (he : starEach [a, b] X.env = (false, eval a X.env) :: starEach [b] X.env := by rfl) (hpl : (backTo pos (starEach [b] X.env)).any (·.1) = false := by rfl) : QE cl W X (.Call (.Name "max" p) [a, b] [] pos) (eCall (ii2D maxI) fs) := qe_callB (call_max2 hc) (ok_ii2 fun i j H Q q => ⟨i, j, rfl, q⟩) hg hm (by decide +kernel) ha (by decide) (by decide) he hpl
theorem qe_min2 (hc : X.calm = true) (hg : Gl X "min") (hm : X.mg "min" = none) (ha : QA cl W X [a, b] (eArgs fs)) (he : starEach [a, b] X.env = (false, eval a X.env) :: starEach [b] X.env := by rfl) (hpl : (backTo pos (starEach [b] X.env)).any (·.1) = false := by rfl) : QE cl W X (.Call (.Name "min" p) [a, b] [] pos) (eCall (ii2D minI) fs) := qe_callB (call_min2 hc) (ok_ii2 fun i j H Q q => ⟨i, j, rfl, q⟩) hg hm (by decide +kernel) ha (by decide) (by decide) he hpl
noncomputable def tyD (S : Sto) : D → Option String
  | .non => some "NoneType"
  | .bl _ => some "bool"
  | .int _ => some "int"
  | .str _ => some "str"
  | .tup _ => some "tuple"
  | .tpi _ => some "tuple"
  | .lst _ => some "list"
  | .fls _ => some "list"
  | .dct _ => some "dict"
  | .ref k => match S[k]? with
    | some (.lst _) => some "list"
    | some (.dct _) => some "dict"
    | _ => none
noncomputable def isTy (a T : String) : Bool := a == T || (a == "bool" && T == "int")
theorem tyD_ok {K : PySem.W.Frag} {am : AM} {S : Sto} {H : Hp} {d : D} {v : V} {t : String} (rs : RelS K cl am S H) (h : VR K am H d v) (e : tyD S d = some t) : TyX K H v (.type t) ∧ t ∈ ["NoneType", "bool", "int", "str", "tuple", "list", "dict"] := by
  cases h with
  | non => cases e; exact ⟨.base .non, by decide⟩
  | bl b => cases e; exact ⟨.base (.bl b), by decide⟩
  | int i => cases e; exact ⟨.base (.int i), by decide⟩
  | str x => cases e; exact ⟨.base (.str x), by decide⟩
  | tup h hs =>
    cases e
    refine ⟨?_, by decide⟩
    rcases h with ⟨o, h, _⟩ | ⟨o, its, n, hk, hc, _⟩
    · exact .fTuple h
    · exact .kTuple hk hc
  | tpi h hs =>
    cases e
    refine ⟨?_, by decide⟩
    rcases h with ⟨h | ⟨o, h⟩, _⟩
    · exact .base (.tup h)
    · exact .fTuple h
  | lst h _ _ => cases e; exact ⟨.base (.lst h), by decide⟩
  | fls h _ =>
    cases e
    refine ⟨?_, by decide⟩
    rcases h with ⟨h | ⟨o, h⟩, _⟩ | ⟨o, its, n, hk, hc, _⟩
    · exact .base (.lst h)
    · exact .base (.frz h)
    · exact .kList hk hc
  | dct h _ _ => cases e; exact ⟨.base (.dK h), by decide⟩
  | @ref k a hk =>
    simp only [tyD] at e
    cases q : S[k]? with
    | none => rw [q] at e; cases e
    | some o =>
      rw [q] at e
      cases o with
      | lst xs => cases e; obtain ⟨vs, h, _⟩ := rs.ob k _ a q hk; exact ⟨.base (.lst h), by decide⟩
      | dct xs => cases e; obtain ⟨vs, h, _⟩ := rs.ob k _ a q hk; exact ⟨.base (.dK h), by decide⟩
      | ins c fs => cases e
theorem kitB_ok : ∀ t ∈ ["NoneType", "bool", "int", "str", "tuple", "list", "dict"], ∀ T ∈ ["bool", "int", "str", "tuple", "list", "dict"], kitB t T = some (isTy t T) := by decide +kernel
noncomputable def isD (T : String) (d : D) (S : Sto) : Res D := match tyD S d with
  | some t => .ok (.bl (isTy t T)) S
  | none => .bad
/-- a built-in class as an argument -/
theorem qe_is {T : Str} {T' : String} {pT : Pos} (hT : T' ∈ ["bool", "int", "str", "tuple", "list", "dict"]) (hg : Gl X "isinstance") (hm : X.mg "isinstance" = none) (hgT : Gl X T) (hmT : X.mg T = none) (hvT : bootBuiltins T = some (.type T')) (ha : QE cl W X a f)
    (h0 : starEach [a, .Name T pT] X.env = (false, eval a X.env) :: starEach [.Name T pT] X.env := by rfl) (h1 : starEach [.Name T pT] X.env = (false, eval (.Name T pT) X.env) :: starEach [] X.env := by rfl) (hpl : (backTo pos (starEach [.Name T pT] X.env)).any (·.1) = false := by rfl)
    (hn : T ≠ "__name__" := by decide) (hd : (T == ("__debug__" : Str)) = false := by decide) : QE cl W X (.Call (.Name "isinstance" p) [a, .Name T pT] [] pos) (e1 (isD T') f) :=
  (pe_callB call_isi hg hm (by decide +kernel) (pa_cons ha (pa_cons (pe_bltn (v := .ty T') hgT hmT hvT rfl hn hd) pa_nil h1) h0) (by decide) (by decide) h0 hpl).imp fun σ H Q ⟨am, e, S, rs, re, p⟩ =>
    ⟨am, e, S, rs, re, (Post.step p).imp fun x H1 ⟨am1, S1, d, _, g1, rs1, rv, p1⟩ => by
      unfold isD at p1
      cases q : tyD S1 d with
      | none => rw [q] at p1; exact p1.elim
      | some t =>
        rw [q] at p1
        obtain ⟨h1, h2⟩ := tyD_ok rs1 rv q
        exact ⟨x, .ty T', _, _, isTy t T', rfl, .ty T', h1, kit_ty (kitB_ok t h2 T' hT), p1 am1 _ H1 .refl rs1 (.bl _)⟩⟩
end
section
variable {K : PySem.W.Frag} {cl : Str → Addr}
theorem law_sp {F : List D → Sto → Res D} (h : ∀ ns : List Int, ns.length ≤ 63 → ∃ S, F [.fls (ns.map D.int)] [] = .ok (.bl true) S) (H : Hp) (a : Addr) (ns : List Int) (hl : ns.length ≤ 63) (hs : SqL K H a (ns.map V.int)) :
    SpD K cl 1 F [.ref a] H (fun v _ => v = .bl true) (fun _ _ _ => False) := by
  obtain ⟨S, e⟩ := h ns hl
  refine ⟨⟨[], [], fun _ h => h⟩, [.fls (ns.map D.int)], [], rfl, ⟨rfl, .nil, fun k o a h => by simp at h, fun a h => by simp at h⟩, .cons (.fls (vs := ns.map V.int) ?_ ?_) .nil, ?_⟩
  · rcases hs with hs | hs
    · exact .inl ⟨hs, by simp⟩
    · exact .inr hs
  · clear e hl hs h
    induction ns with
    | nil => exact .nil
    | cons n ns ih => exact .cons (.int n) ih
  · rw [e]
    intro am' v H' g rs rv
    cases rv
    rfl
theorem cx_no {P : Program} {w : World} {o : List PySem.Env} {H : Hp} {s : Shared} {e : Value} {s' : Shared} (h : L2N.CX P w o H s (fun _ _ _ => False) e s') : False := by
  obtain ⟨_, _, _, _, _, _, _, _, _, _, _, _, z⟩ := h
  exact z
end
end Pu
set_option Elab.async false
set_option linter.all false
set_option maxRecDepth 100000
namespace Pu
open PySem PySem.Spec PyProof.Rows L2
section
variable {α : Type} {e : En} {S : Sto} {f g h : Ev D} {fs : List (Ev D)} {a b c : Stm} {s t : Ev Bool}
@[simp] theorem ap_C {d : D} : eC d e S = .ok d S := id rfl
theorem ap_Var {i : Nat} {d : D} (h : e[i]? = some (some d)) : eVar i e S = .ok d S := by simp [eVar, h]
@[simp] theorem ap_Var0 {d : D} {r : En} : eVar 0 (some d :: r) S = .ok d S := id rfl
@[simp] theorem ap_VarS {i : Nat} {x : Option D} {r : En} : eVar (i + 1) (x :: r) S = eVar i r S := by simp [eVar]
@[simp] theorem ap_1 {o : D → Sto → Res D} : e1 o f e S = (f e S).bind fun x S => o x S := id rfl
@[simp] theorem ap_2 {o : D → D → Sto → Res D} : e2 o f g e S = (f e S).bind fun x S => (g e S).bind fun y S => o x y S := id rfl
@[simp] theorem ap_TB : eTB f e S = (f e S).bind toB := id rfl
@[simp] theorem ap_Ch {o o' : D → D → Sto → Res D} : eCh o o' f g h e S = (f e S).bind fun x S => (g e S).bind fun y S => (o x y S).bind fun z S => (toB z S).bind fun k S => if k = true then (h e S).bind fun w S => o' y w S else .ok (.bl false) S := id rfl
@[simp] theorem ap_tAnd : tAndD s t e S = (s e S).bind fun b S => if b = true then t e S else .ok false S := id rfl
@[simp] theorem ap_tOr : tOrD s t e S = (s e S).bind fun b S => if b = true then .ok true S else t e S := id rfl
@[simp] theorem ap_tNot : tNotD s e S = (s e S).bind fun b S => .ok (!b) S := id rfl
@[simp] theorem ap_eAnd : eAndD f g e S = (f e S).bind fun d S => (toB d S).bind fun b S => if b = true then g e S else .ok (.bl false) S := id rfl
@[simp] theorem ap_eOr : eOrD f g e S = (f e S).bind fun d S => (toB d S).bind fun b S => if b = true then .ok (.bl true) S else g e S := id rfl
@[simp] theorem ap_eNot : eNotD f e S = (f e S).bind fun d S => (toB d S).bind fun b S => .ok (.bl (!b)) S := id rfl
@[simp] theorem ap_eIf : eIf t f g e S = (t e S).bind fun b S => if b = true then f e S else g e S := id rfl
@[simp] theorem ap_Tr : eTr f e S = (f e S).bind truD := id rfl
@[simp] theorem ap_Args0 : eArgs [] e S = .ok [] S := id rfl
@[simp] theorem ap_Args : eArgs (f :: fs) e S = (f e S).bind fun x S => (eArgs fs e S).bind fun xs S => .ok (x :: xs) S := id rfl
@[simp] theorem ap_Tup : eTup fs e S = (eArgs fs e S).bind fun xs S => .ok (.tup xs) S := id rfl
@[simp] theorem ap_Call {op : List D → Sto → Res D} : eCall op fs e S = (eArgs fs e S).bind op := id rfl
@[simp] theorem ap_Fn {op : List D → Sto → Res D} : eFn op fs e S = (eArgs fs e S).bind op := id rfl
@[simp] theorem ap_nLst : nLst fs e S = (eArgs fs e S).bind fun xs S => .ok (.lst xs) S := id rfl
@[simp] theorem ap_nDct0 : nDct0 e S = .ok (.dct []) S := id rfl
@[simp] theorem ap_Ano {n : Ev DO} : eAno n e S = (n e S).bind anoD := id rfl
@[simp] theorem ap_New {n : Ev DO} : eNew n e S = (n e S).bind fun o S => .ok (.ref S.length) (S ++ [o]) := id rfl
@[simp] theorem ap_M {T : String} {op : D → List D → Sto → Res D} : eM T op f fs e S = (f e S).bind fun o S => if isT T o S then (eArgs fs e S).bind fun ds S => op o ds S else .bad := id rfl
@[simp] theorem ap_Sl {p q : Ev (Option Int)} : eSl f p q e S = (f e S).bind fun d S => (p e S).bind fun lo S => (q e S).bind fun hi S => slD d lo hi S := id rfl
@[simp] theorem ap_pN : pN e S = .ok none S := id rfl
@[simp] theorem ap_pE : pE f e S = (f e S).bind fun d S => match d with
  | .int i => .ok (some i) S
  | _ => .bad := rfl
@[simp] theorem ap_yes : tYesD e S = .ok true S := id rfl
@[simp] theorem ap_Set {i : Nat} : sSet i f e S = (f e S).stm e fun d S => .next (e.set i (some d)) S := id rfl
@[simp] theorem ap_Ret : sRet f e S = (f e S).stm e fun d S => .ret d S := id rfl
@[simp] theorem ap_Expr : sExpr f e S = (f e S).stm e fun _ S => .next e S := id rfl
@[simp] theorem ap_Next : sNext e S = .next e S := id rfl
@[simp] theorem ap_Brk : sBrk e S = .brk e S := id rfl
@[simp] theorem ap_Seq : sSeq a b e S = (a e S).seq b := id rfl
@[simp] theorem ap_If : sIf t a b e S = (t e S).stm e fun k S => if k = true then a e S else b e S := id rfl
@[simp] theorem ap_St : sSt f g h e S = (f e S).stm e fun v S => (g e S).stm e fun o S => (h e S).stm e fun i S => match stD o i v S with
  | some S' => .next e S'
  | none => .bad := rfl
@[simp] theorem ap_Asg {tg : Tg} : sAsg tg f e S = (f e S).stm e fun d S => match bindT tg d e with
  | some e' => .next e' S
  | none => .bad := rfl
@[simp] theorem ap_Aug {op : D → D → Sto → Res D} {i : Nat} : sAug op i f e S = (eVar i e S).stm e fun x S => (f e S).stm e fun y S => (op x y S).stm e fun z S => .next (e.set i (some z)) S := id rfl
noncomputable def fgtR (vs : List Nat) (r : SRes) : SRes := match r with
  | .next e S => .next (wipeE e vs) S
  | r => r
@[simp] theorem ap_Fgt {vs : List Nat} : sFgt vs a e S = fgtR vs (a e S) := id rfl
@[simp] theorem fgt_next {vs : List Nat} : fgtR vs (.next e S) = .next (wipeE e vs) S := id rfl
@[simp] theorem fgt_ret {vs : List Nat} {d : D} : fgtR vs (.ret d S) = .ret d S := id rfl
@[simp] theorem fgt_brk {vs : List Nat} : fgtR vs (.brk e S) = .brk e S := id rfl
@[simp] theorem fgt_bad {vs : List Nat} : fgtR vs .bad = .bad := id rfl
@[simp] theorem ap_For {dead : List Nat} {tg : Tg} {it : Ev Src} : sFor dead tg it a e S = (it e S).stm e fun src S => forD dead tg src a src.items e S := id rfl
@[simp] theorem ap_iL : iL f e S = (f e S).bind srcL := id rfl
@[simp] theorem ap_iT : iT f e S = (f e S).bind srcT := id rfl
@[simp] theorem ap_iR1 : iR1 f e S = (f e S).bind fun x S => srcR1 [x] S := by
  unfold iR1
  simp only [ap_Args, ap_Args0]
  cases f e S <;> rfl
@[simp] theorem ap_iR2 : iR2 f g e S = (f e S).bind fun x S => (g e S).bind fun y S => srcR2 [x, y] S := by
  unfold iR2
  simp only [ap_Args, ap_Args0]
  cases f e S with
  | ok a S1 => simp only [Res.bind_ok]; cases g e S1 <;> rfl
  | exc c S1 => rfl
  | bad => rfl
@[simp] theorem ap_Lc {vs : List Nat} {tg : Tg} {it : Ev Src} : nLc vs tg it t f e S = (it e S).bind fun src S => if src.items.length ≤ sizeLine then (lcD tg src t f (wipeE e vs) src.items S).bind fun ds S => .ok (.lst ds) S else .bad := id rfl
@[simp] theorem wipe_nil : wipeE e [] = e := id rfl
@[simp] theorem wipe_cons {v : Nat} {vs : List Nat} : wipeE e (v :: vs) = (wipeE e vs).set v none := id rfl
@[simp] theorem bindT_nm {i : Nat} {d : D} : bindT (.nm i) d e = some (e.set i (some d)) := id rfl
@[simp] theorem bindT_tp {ts : List Tg} {ds : List D} : bindT (.tp ts) (.tup ds) e = bindTs ts ds e := id rfl
@[simp] theorem bindT_tpi {ts : List Tg} {ds : List D} : bindT (.tp ts) (.tpi ds) e = bindTs ts ds e := id rfl
@[simp] theorem bindTs_nil : bindTs [] [] e = some e := id rfl
@[simp] theorem bindTs_cons {t : Tg} {ts : List Tg} {d : D} {ds : List D} : bindTs (t :: ts) (d :: ds) e = (bindT t d e).bind fun e => bindTs ts ds e := id rfl
/-- operations -/
@[simp] theorem addD_int {i j : Int} : addD (.int i) (.int j) S = .ok (.int (i + j)) S := id rfl
@[simp] theorem addD_tup {i j : List D} : addD (.tup i) (.tup j) S = if i.length + j.length ≤ sizeLine then .ok (.tup (i ++ j)) S else .bad := id rfl
@[simp] theorem addD_str {i j : Str} : addD (.str i) (.str j) S = if i.length + j.length ≤ sizeLine then .ok (.str (i ++ j)) S else .bad := id rfl
@[simp] theorem mulD_int {i j : Int} : mulD (.int i) (.int j) S = if FitMul i j then .ok (.int (i * j)) S else .bad := id rfl
@[simp] theorem negD_int {i : Int} : negD (.int i) S = .ok (.int (-i)) S := id rfl
@[simp] theorem isND_ap {neg : Bool} {d : D} : isND neg d S = .ok (.bl (if neg = true then !d.isN else d.isN)) S := id rfl
@[simp] theorem isN_non : D.non.isN = true := id rfl
@[simp] theorem isN_int {i : Int} : (D.int i).isN = false := id rfl
@[simp] theorem isN_tup {i : List D} : (D.tup i).isN = false := id rfl
@[simp] theorem isN_str {i : Str} : (D.str i).isN = false := id rfl
@[simp] theorem truD_bl {b : Bool} : truD (.bl b) S = .ok b S := id rfl
@[simp] theorem truD_int {i : Int} : truD (.int i) S = .ok (i != 0) S := id rfl
@[simp] theorem lenD_tup {xs : List D} : lenD [.tup xs] S = .ok (.int xs.length) S := id rfl
@[simp] theorem lenD_lst {xs : List D} : lenD [.lst xs] S = .ok (.int xs.length) S := id rfl
@[simp] theorem lenD_fls {xs : List D} : lenD [.fls xs] S = .ok (.int xs.length) S := id rfl
@[simp] theorem int1_int {i : Int} : int1D [.int i] S = .ok (.int i) S := id rfl
@[simp] theorem int1_bl {b : Bool} : int1D [.bl b] S = .ok (.int (if b then 1 else 0)) S := id rfl
@[simp] theorem tupD_tup {xs : List D} : tupD [.tup xs] S = .ok (.tup xs) S := id rfl
@[simp] theorem tupD_lst {xs : List D} : tupD [.lst xs] S = .ok (.tup xs) S := id rfl
theorem tupD_ref {k : Nat} {xs : List D} (h : S[k]? = some (.lst xs)) : tupD [.ref k] S = .ok (.tup xs) S := by
  simp [tupD, sqOf, lsOf, h]
@[simp] theorem ixD_tup {xs : List D} {j : Int} : ixD (.tup xs) (.int j) S = opt (atI xs j) S := id rfl
@[simp] theorem ixD_lst {xs : List D} {j : Int} : ixD (.lst xs) (.int j) S = opt (atI xs j) S := id rfl
@[simp] theorem ixD_fls {xs : List D} {j : Int} : ixD (.fls xs) (.int j) S = opt (atI xs j) S := id rfl
theorem ixD_ref {k : Nat} {xs : List D} {j : Int} (h : S[k]? = some (.lst xs)) : ixD (.ref k) (.int j) S = opt (atI xs j) S := by
  simp [ixD, dcOf, sqOf, lsOf, h]
@[simp] theorem srcT_tup {xs : List D} : srcT (.tup xs) S = .ok (.tmp xs) S := id rfl
@[simp] theorem srcL_lst {xs : List D} : srcL (.lst xs) S = .ok (.tmp xs) S := id rfl
@[simp] theorem srcL_fls {xs : List D} : srcL (.fls xs) S = .ok (.tmp xs) S := id rfl
theorem srcL_ref {k : Nat} {xs : List D} (h : S[k]? = some (.lst xs)) : srcL (.ref k) S = .ok (.st k xs) S := by
  simp [srcL, h]
theorem stD_lst {k : Nat} {xs : List D} {j : Int} {v : D} {n : Nat} (h : S[k]? = some (.lst xs)) (hn : ixN xs.length j = some n) : stD (.ref k) (.int j) v S = some (S.set k (.lst (xs.set n v))) := by
  simp [stD, h, hn]
theorem appD_ref {k : Nat} {xs : List D} {y : D} (h : S[k]? = some (.lst xs)) (hl : xs.length < sizeLine) : appD (.ref k) [y] S = .ok .non (S.set k (.lst (xs ++ [y]))) := by
  simp [appD, h, hl]
theorem isT_ref {k : Nat} {xs : List D} (h : S[k]? = some (.lst xs)) : isT "list" (.ref k) S := by
  simp [isT, lsOf, h]
end
theorem fin_frz {S S' : Sto} {d : D} (hc : Clo S S') (h : d.gnd = true) : fin .frz S d S' = .ok d (S'.take S.length) := by
  simp only [fin]
  rw [if_pos hc]
  unfold frzV
  rw [if_pos (gnd_below _ d h)]
  rfl
theorem Clo.refl {S : Sto} : Clo S S := ⟨Nat.le_refl _, fun k o hk h => .inl h⟩
theorem Clo.app {S T : Sto} : Clo S (S ++ T) := ⟨by simp, fun k o hk h => .inl (by rw [List.getElem?_append_left hk] at h; exact h)⟩
theorem fin_same {S : Sto} {d : D} (h : d.gnd = true) : fin .frz S d S = .ok d S := by
  rw [fin_frz .refl h, List.take_length]
theorem Clo.set {S T : Sto} {k : Nat} {o : DO} (h : o.bel S.length = true) : Clo S (S.set k o ++ T) := ⟨by simp, fun j u hj e => by
  rw [List.getElem?_append_left (by simpa using hj)] at e
  by_cases hk : k = j
  · subst hk
    rw [List.getElem?_set_self hj] at e
    cases e
    exact .inr h
  · rw [List.getElem?_set_ne hk] at e
    exact .inl e⟩
@[simp] theorem retD_ret {m : Md} {S S' : Sto} {d : D} : retD m S (.ret d S') = fin m S d S' := id rfl
@[simp] theorem retD_next {m : Md} {S S' : Sto} {e : En} : retD m S (.next e S') = fin m S .non S' := id rfl
@[simp] theorem gnd_non : D.non.gnd = true := id rfl
@[simp] theorem gnd_bl {b : Bool} : (D.bl b).gnd = true := id rfl
@[simp] theorem gnd_int {b : Int} : (D.int b).gnd = true := id rfl
@[simp] theorem gnd_str {b : Str} : (D.str b).gnd = true := id rfl
@[simp] theorem gnd_tup {xs : List D} : (D.tup xs).gnd = gnds xs := id rfl
@[simp] theorem gnd_lst {xs : List D} : (D.lst xs).gnd = gnds xs := id rfl
@[simp] theorem gnd_fls {xs : List D} : (D.fls xs).gnd = gnds xs := id rfl
@[simp] theorem gnds_nil : gnds [] = true := id rfl
@[simp] theorem gnds_cons {x : D} {xs : List D} : gnds (x :: xs) = (x.gnd && gnds xs) := id rfl
theorem gnds_all : ∀ xs : List D, gnds xs = xs.all D.gnd
  | [] => rfl
  | x :: xs => by rw [gnds_cons, List.all_cons, gnds_all xs]
@[simp] theorem gnds_app {xs ys : List D} : gnds (xs ++ ys) = (gnds xs && gnds ys) := by simp [gnds_all]
theorem gnds_map {α : Type} {f : α → D} (h : ∀ x, (f x).gnd = true) (xs : List α) : gnds (xs.map f) = true := by simp [gnds_all, h]
@[simp] theorem gnds_ints (xs : List Int) : gnds (xs.map D.int) = true := gnds_map (fun _ => rfl) xs
@[simp] theorem bel_lstO {n : Nat} {xs : List D} : (DO.lst xs).bel n = belows n xs := id rfl
@[simp] theorem belows_nil {n : Nat} : belows n [] = true := id rfl
@[simp] theorem belows_cons {n : Nat} {x : D} {xs : List D} : belows n (x :: xs) = (x.bel n && belows n xs) := id rfl
@[simp] theorem bel_int {n : Nat} {i : Int} : (D.int i).bel n = true := id rfl
theorem atI_cast {α : Type} {xs : List α} {n : Nat} : atI xs (n : Int) = xs[n]? := by
  by_cases h : n < xs.length
  · rw [List.getElem?_eq_getElem h]
    exact atI_nat (List.getElem?_eq_getElem h)
  · rw [List.getElem?_eq_none (by omega)]
    unfold atI ixN
    rw [if_pos (by omega), if_neg (by omega)]
    rfl
@[simp] theorem atI_0 {α : Type} {xs : List α} : atI xs 0 = xs[0]? := atI_cast (n := 0)
@[simp] theorem atI_1 {α : Type} {xs : List α} : atI xs 1 = xs[1]? := atI_cast (n := 1)
@[simp] theorem atI_2 {α : Type} {xs : List α} : atI xs 2 = xs[2]? := atI_cast (n := 2)
@[simp] theorem atI_3 {α : Type} {xs : List α} : atI xs 3 = xs[3]? := atI_cast (n := 3)
@[simp] theorem atI_4 {α : Type} {xs : List α} : atI xs 4 = xs[4]? := atI_cast (n := 4)
@[simp] theorem atI_m1 {α : Type} {xs : List α} : atI xs (-1) = xs.getLast? := by
  rcases List.eq_nil_or_concat xs with h | ⟨ys, y, h⟩
  · subst h; rfl
  · subst h
    rw [List.concat_eq_append, atI_last]
    simp
theorem modD_pos {i j : Int} {S : Sto} (h : 0 < j) : modD (.int i) (.int j) S = .ok (.int (i % j)) S := by
  simp [fmodI, h]
  omega
theorem fdivD_pos {i j : Int} {S : Sto} (h : 0 < j) (hl : j.natAbs.log2 < 9000) : fdivD (.int i) (.int j) S = .ok (.int (i / j)) S := by
  simp [fdivI, DivOk, h, hl]
@[simp] theorem startE_a1 {n : Nat} {a : D} : startE (n + 1) [a] = some a :: List.replicate n none := id rfl
@[simp] theorem startE_a2 {n : Nat} {a b : D} : startE (n + 2) [a, b] = some a :: some b :: List.replicate n none := id rfl
@[simp] theorem startE_a3 {n : Nat} {a b c : D} : startE (n + 3) [a, b, c] = some a :: some b :: some c :: List.replicate n none := id rfl
@[simp] theorem startE_a4 {n : Nat} {a b c d : D} : startE (n + 4) [a, b, c, d] = some a :: some b :: some c :: some d :: List.replicate n none := id rfl
end Pu
set_option Elab.async false
set_option linter.all false
set_option maxRecDepth 100000
namespace Pu
open PySem PySem.Spec PyProof.Rows L2
/-- what a turn leaves -/
noncomputable def aft (dead : List Nat) (r : SRes) : SRes := match r with
  | .next e2 S2 => .next (wipeE e2 dead) S2
  | .cnt e2 S2 => .next (wipeE e2 dead) S2
  | r => r
@[simp] theorem aft_next {dead : List Nat} {e : En} {S : Sto} : aft dead (.next e S) = .next (wipeE e dead) S := id rfl
@[simp] theorem aft_cnt {dead : List Nat} {e : En} {S : Sto} : aft dead (.cnt e S) = .next (wipeE e dead) S := id rfl
@[simp] theorem aft_brk {dead : List Nat} {e : En} {S : Sto} : aft dead (.brk e S) = .brk e S := id rfl
@[simp] theorem aft_ret {dead : List Nat} {d : D} {S : Sto} : aft dead (.ret d S) = .ret d S := id rfl
/-- one turn of a for -/
noncomputable def turn (dead : List Nat) (tg : Tg) (body : Stm) (x : D) (e : En) (S : Sto) : SRes := match bindT tg x e with
  | none => .bad
  | some e1 => aft dead (body e1 S)
section
variable {dead : List Nat} {tg : Tg} {src : Src} {body : Stm} {e : En} {S : Sto}
theorem forD_nil (h : src.ok S) : forD dead tg src body [] e S = .next e S := by
  unfold forD
  rw [if_pos h]
theorem forD_cons {x : D} {xs : List D} (h : src.ok S) : forD dead tg src body (x :: xs) e S = match turn dead tg body x e S with
    | .next e2 S2 => forD dead tg src body xs e2 S2
    | .brk e2 S2 => .next e2 S2
    | .cnt e2 S2 => .cnt e2 S2
    | r => r := by
  conv => lhs; unfold forD
  rw [if_pos h]
  unfold turn
  cases bindT tg x e with
  | none => rfl
  | some e1 =>
    simp only [aft]
    cases body e1 S <;> rfl
/-- every turn goes on -/
theorem for_inv (I : Nat → En → Sto → Prop) (ok : ∀ n e S, I n e S → src.ok S) : ∀ (xs : List D) (k : Nat) (e : En) (S : Sto), I k e S →
    (∀ (n : Nat) (e : En) (S : Sto) (x : D), xs[n]? = some x → I (k + n) e S → ∃ e' S', turn dead tg body x e S = .next e' S' ∧ I (k + n + 1) e' S') →
    ∃ e' S', forD dead tg src body xs e S = .next e' S' ∧ I (k + xs.length) e' S'
  | [], k, e, S, h0, _ => ⟨e, S, forD_nil (ok _ _ _ h0), h0⟩
  | x :: xs, k, e, S, h0, h => by
    obtain ⟨e1, S1, q1, h1⟩ := h 0 e S x rfl h0
    obtain ⟨e2, S2, q2, h2⟩ := for_inv I ok xs (k + 1) e1 S1 h1 fun n e S y hy hI => by
      have := h (n + 1) e S y (by simpa using hy)
      rw [show k + (n + 1) = k + 1 + n by omega] at this
      exact this hI
    refine ⟨e2, S2, ?_, by rw [List.length_cons, show k + (xs.length + 1) = k + 1 + xs.length by omega]; exact h2⟩
    rw [forD_cons (ok _ _ _ h0), q1]
    exact q2
/-- .. from the first, over data that stand still -/
theorem for_inv0 {ys : List D} (I : Nat → En → Sto → Prop) {xs : List D} (h0 : I 0 e S) (h : ∀ (n : Nat) (e : En) (S : Sto) (x : D), xs[n]? = some x → I n e S → ∃ e' S', turn dead tg body x e S = .next e' S' ∧ I (n + 1) e' S') :
    ∃ e' S', forD dead tg (.tmp ys) body xs e S = .next e' S' ∧ I xs.length e' S' := by
  obtain ⟨e', S', q, h'⟩ := for_inv (src := .tmp ys) I (fun _ _ _ _ => trivial) xs 0 e S h0 (fun n e S x hx hI => by
    rw [Nat.zero_add] at hI ⊢
    exact h n e S x hx hI)
  rw [Nat.zero_add] at h'
  exact ⟨e', S', q, h'⟩
variable {t : Ev Bool} {f : Ev D}
/-- a comprehension that changes nothing -/
theorem lc_map {ι : Type} {ys : List D} (v : ι → D) (p : ι → Bool) (g : ι → D) : ∀ (xs : List ι), (∀ x ∈ xs, ∃ e1, bindT tg (v x) e = some e1 ∧ t e1 S = .ok (p x) S ∧ (p x = true → f e1 S = .ok (g x) S)) →
    lcD tg (.tmp ys) t f e (xs.map v) S = .ok ((xs.filter p).map g) S
  | [], _ => by
    rw [List.map_nil, lcD_nil, if_pos (show (Src.tmp ys).ok S from trivial)]
    rfl
  | x :: xs, h => by
    obtain ⟨e1, q1, q2, q3⟩ := h x List.mem_cons_self
    rw [List.map_cons, lcD_cons, if_pos (show (Src.tmp ys).ok S from trivial), q1]
    simp only [q2, nox_ok, Res.bind_ok]
    have ih := lc_map (ys := ys) v p g xs fun y hy => h y (List.mem_cons_of_mem _ hy)
    cases hp : p x with
    | true => simp only [q3 hp, if_true, nox_ok, Res.bind_ok, ih, List.filter_cons_of_pos hp, List.map_cons]
    | false =>
      rw [if_neg Bool.false_ne_true, ih, List.filter_cons_of_neg (by simp [hp])]
theorem lc_all {ι : Type} {ys : List D} (v : ι → D) (g : ι → D) (xs : List ι) (h : ∀ x ∈ xs, ∃ e1, bindT tg (v x) e = some e1 ∧ f e1 S = .ok (g x) S) : lcD tg (.tmp ys) tYesD f e (xs.map v) S = .ok (xs.map g) S := by
  have := lc_map (t := tYesD) (f := f) (ys := ys) v (fun _ => true) g xs fun x hx => by
    obtain ⟨e1, q1, q2⟩ := h x hx
    exact ⟨e1, q1, rfl, fun _ => q2⟩
  rw [this, List.filter_eq_self.mpr fun _ _ => rfl]
end
@[simp] theorem rngD_len {lo hi : Int} : (rngD lo hi).length = (hi - lo).toNat := by simp [rngD]
theorem rngD_get {lo hi : Int} {n : Nat} {x : D} (h : (rngD lo hi)[n]? = some x) : x = .int (lo + n) ∧ lo + n < hi := by
  unfold rngD at h
  have hn : n < (hi - lo).toNat := by
    have := (List.getElem?_eq_some_iff.mp h).1
    simpa using this
  rw [List.getElem?_map, List.getElem?_range hn] at h
  exact ⟨(Option.some.inj h).symm, by omega⟩
@[simp] theorem srcR1_ap {j : Int} {S : Sto} : srcR1 [.int j] S = if Rg62 j then .ok (.tmp (rngD 0 j)) S else .bad := id rfl
@[simp] theorem srcR2_ap {i j : Int} {S : Sto} : srcR2 [.int i, .int j] S = if Rg62 i ∧ Rg62 j then .ok (.tmp (rngD i j)) S else .bad := id rfl
theorem FitMul.left {i j : Int} (h1 : -18446744073709551616 < i) (h2 : i < 18446744073709551616) : FitMul i j := .inl ⟨by omega, by omega⟩
theorem FitMul.right {i j : Int} (h1 : -18446744073709551616 < j) (h2 : j < 18446744073709551616) : FitMul i j := .inr (.inl ⟨by omega, by omega⟩)
theorem bits_le {i : Int} {b : Nat} (h : i.natAbs < 2 ^ b) : Builtin.Int.intBits i ≤ b := by
  unfold Builtin.Int.intBits
  split
  · omega
  · rename_i hz
    have hn : i.natAbs ≠ 0 := fun e => hz (by have : i = 0 := Int.natAbs_eq_zero.mp e; subst this; rfl)
    have := (Nat.log2_lt hn).mpr h
    omega
theorem PowOk.of {i j : Int} {b : Nat} (h : i.natAbs < 2 ^ b) (h0 : 0 ≤ j) (hb : (b : Int) * j ≤ 134217728) : PowOk i j := by
  refine ⟨h0, ?_⟩
  have h1 := bits_le h
  have : (Builtin.Int.intBits i : Int) * j ≤ (b : Int) * j := Int.mul_le_mul_of_nonneg_right (by omega) h0
  omega
theorem pw18 : PowOk 10 18 := by decide
theorem powD_ok {i j : Int} {S : Sto} (h : PowOk i j) : powD (.int i) (.int j) S = .ok (.int (i ^ j.toNat)) S := if_pos h
theorem mulD_ok {i j : Int} {S : Sto} (h : FitMul i j) : mulD (.int i) (.int j) S = .ok (.int (i * j)) S := if_pos h
theorem p10_18 {S : Sto} : powD (.int 10) (.int 18) S = .ok (.int 1000000000000000000) S := powD_ok pw18
end Pu
set_option Elab.async false
set_option linter.all false
set_option maxRecDepth 100000
namespace Pu
open PySem PySem.Spec PyProof.Rows L2
/-- data of one kind: f tells them, n bounds their depth -/
structure Rp {α : Type} (f : α → D) (n : Nat) : Prop where
  eqv : ∀ x y, PyData.eqv (f x).py (f y).py = true ↔ x = y
  lay : ∀ x, (f x).py.canLay0 = true
  dep : ∀ x, (f x).py.depth ≤ n
  flat : ∀ x S, pyOf S (f x) = (f x).py
  gnd : ∀ x, (f x).gnd = true
theorem Rp.int : Rp D.int 0 := ⟨fun x y => by simp [D.py, PyData.eqv], fun _ => rfl, fun _ => Nat.le_refl _, fun _ _ => rfl, fun _ => rfl⟩
theorem Rp.bl : Rp D.bl 0 := ⟨fun x y => by cases x <;> cases y <;> decide, fun _ => rfl, fun _ => Nat.le_refl _, fun _ _ => rfl, fun _ => rfl⟩
/-- a row of two -/
noncomputable def prD {α β : Type} (f : α → D) (g : β → D) (p : α × β) : D := .tup [f p.1, g p.2]
noncomputable def tpD {α : Type} (f : α → D) (xs : List α) : D := .tup (xs.map f)
noncomputable def lsD {α : Type} (f : α → D) (xs : List α) : D := .lst (xs.map f)
theorem Rp.pr {α β : Type} {f : α → D} {g : β → D} {n m : Nat} (hf : Rp f n) (hg : Rp g m) : Rp (prD f g) (max n m + 1) := ⟨fun x y => by
    obtain ⟨a, b⟩ := x
    obtain ⟨c, d⟩ := y
    simp [prD, D.py, pys, PyData.eqv, PyData.eqvAll, hf.eqv, hg.eqv], fun x => by
    simp [prD, D.py, pys, PyData.canLay0, PyData.canLayAll0, hf.lay, hg.lay], fun x => by
    have h1 := hf.dep x.1
    have h2 := hg.dep x.2
    simp only [prD, D.py, pys, PyData.depth, PyData.depthAll]
    omega, fun _ _ => rfl, fun x => by
    simp [prD, hf.gnd, hg.gnd]⟩
theorem eqvs {α : Type} {f : α → D} {n : Nat} (hf : Rp f n) : ∀ xs ys : List α, PyData.eqvAll (pys (xs.map f)) (pys (ys.map f)) = true ↔ xs = ys
  | [], [] => by simp [pys, PyData.eqvAll]
  | [], _ :: _ => by simp [pys, PyData.eqvAll]
  | _ :: _, [] => by simp [pys, PyData.eqvAll]
  | x :: xs, y :: ys => by
    simp [pys, PyData.eqvAll, hf.eqv, eqvs hf xs ys]
theorem lays {α : Type} {f : α → D} {n : Nat} (hf : Rp f n) : ∀ xs : List α, PyData.canLayAll0 (pys (xs.map f)) = true
  | [] => rfl
  | x :: xs => by simp [pys, PyData.canLayAll0, hf.lay, lays hf xs]
theorem deps {α : Type} {f : α → D} {n : Nat} (hf : Rp f n) : ∀ xs : List α, PyData.depthAll (pys (xs.map f)) ≤ n
  | [] => Nat.zero_le _
  | x :: xs => by
    have h1 := hf.dep x
    have h2 := deps hf xs
    simp only [List.map_cons, pys, PyData.depthAll]
    omega
theorem Rp.tp {α : Type} {f : α → D} {n : Nat} (hf : Rp f n) : Rp (tpD f) (n + 1) := ⟨fun x y => by
    simp only [tpD, D.py, PyData.eqv]
    exact eqvs hf x y, fun x => by
    simp only [tpD, D.py, PyData.canLay0]
    exact lays hf x, fun x => by
    have := deps hf x
    simp only [tpD, D.py, PyData.depth]
    omega, fun _ _ => rfl, fun x => by
    simp [tpD, gnds_map hf.gnd]⟩
theorem Rp.ls {α : Type} {f : α → D} {n : Nat} (hf : Rp f n) : Rp (lsD f) (n + 1) := ⟨fun x y => by
    simp only [lsD, D.py, PyData.eqv]
    exact eqvs hf x y, fun x => by
    simp only [lsD, D.py, PyData.canLay0]
    exact lays hf x, fun x => by
    have := deps hf x
    simp only [lsD, D.py, PyData.depth]
    omega, fun _ _ => rfl, fun x => by
    simp [lsD, gnds_map hf.gnd]⟩
theorem Rp.shp {α : Type} {f : α → D} {n : Nat} (hf : Rp f n) (h : n ≤ 64) (x : α) (S : Sto) : Pu.shp S (f x) = true := by
  have := hf.dep x
  unfold Pu.shp SeqAt.shaped
  rw [hf.flat, hf.lay]
  simp
  omega
theorem Rp.eqB {α : Type} [DecidableEq α] {f : α → D} {n : Nat} (hf : Rp f n) (x y : α) (S : Sto) : Pu.eqB S (f x) (f y) = decide (x = y) := by
  unfold Pu.eqB
  rw [hf.flat, hf.flat]
  rw [Bool.eq_iff_iff, hf.eqv]
  simp
theorem Rp.eq {α : Type} [DecidableEq α] {f : α → D} {n : Nat} (hf : Rp f n) (h : n ≤ 64) (x y : α) (S : Sto) : eqD false (f x) (f y) S = .ok (.bl (decide (x = y))) S := by
  simp [eqD, hf.shp h, hf.eqB]
theorem Rp.ne {α : Type} [DecidableEq α] {f : α → D} {n : Nat} (hf : Rp f n) (h : n ≤ 64) (x y : α) (S : Sto) : eqD true (f x) (f y) S = .ok (.bl (!decide (x = y))) S := by
  simp [eqD, hf.shp h, hf.eqB]
@[simp] theorem eqD_int {i j : Int} {S : Sto} : eqD false (.int i) (.int j) S = .ok (.bl (decide (i = j))) S := Rp.int.eq (by decide) i j S
@[simp] theorem neD_int {i j : Int} {S : Sto} : eqD true (.int i) (.int j) S = .ok (.bl (!decide (i = j))) S := Rp.int.ne (by decide) i j S
noncomputable def Dg (S : Sto) (k : Nat) (x : Int) : Sto := S.set k (.lst [.int x])
section
variable {S T : Sto} {k j : Nat} {x y : Int}
@[simp] theorem Dg_len : (Dg S k x).length = S.length := by simp [Dg]
end
theorem sz {n : Nat} (h : n < 1048576) : n < sizeLine := Nat.lt_of_lt_of_le h (by unfold sizeLine; decide +kernel)
theorem set_last {S : Sto} {o p : DO} : (S ++ [o]).set S.length p = S ++ [p] := by simp
theorem last_at {S : Sto} {o : DO} : (S ++ [o])[S.length]? = some o := by simp
theorem rg {n : Nat} (h : n < 1048576) : Rg62 (n : Int) := by
  unfold Rg62
  omega
theorem forR1 {dead : List Nat} {tg : Tg} {f : Ev D} {a : Stm} {e : En} {S : Sto} {n : Nat} (hf : f e S = .ok (.int n) S) (h : n < 1048576) : sFor dead tg (iR1 f) a e S = forD dead tg (.tmp (rngD 0 n)) a (rngD 0 n) e S := by
  rw [ap_For, ap_iR1, hf, Res.bind_ok, srcR1_ap, if_pos (rg h), Res.stm_ok]
  rfl
end Pu
set_option Elab.async false
set_option linter.all false
set_option maxRecDepth 100000
namespace Pu
open PySem PySem.Spec PyProof.Rows L2
theorem list_set0 {α : Type} {x y : α} {xs : List α} : (x :: xs).set 0 y = y :: xs := rfl
theorem list_setS {α : Type} {x y : α} {xs : List α} {n : Nat} : (x :: xs).set (n + 1) y = x :: xs.set n y := rfl
theorem rep_0 {α : Type} {x : α} : List.replicate 0 x = [] := rfl
theorem rep_S {α : Type} {x : α} {n : Nat} : List.replicate (n + 1) x = x :: List.replicate n x := rfl
theorem obs {α β : Type} {a : α} {f : α → Option β} : (some a).bind f = f a := rfl
theorem iftr {α : Type} {a b : α} : (if (true = true) then a else b) = a := rfl
theorem iffa {α : Type} {a b : α} : (if (false = true) then a else b) = b := rfl
theorem ifT {α : Type} {a b : α} : (if True then a else b) = a := if_pos trivial
theorem ifF {α : Type} {a b : α} : (if False then a else b) = b := if_neg not_false
noncomputable def goA := And.intro @ap_C (And.intro @ap_Var0 (And.intro @ap_VarS (And.intro @ap_1 (And.intro @ap_2 (And.intro @ap_TB (And.intro @ap_Ch (And.intro @ap_tAnd (And.intro @ap_tOr (And.intro @ap_tNot (And.intro @ap_eAnd (And.intro @ap_eOr (And.intro @ap_eNot (And.intro @ap_eIf (And.intro @ap_Tr (And.intro @ap_Args0 (And.intro @ap_Args (And.intro @ap_Tup (And.intro @ap_Call (And.intro @ap_Fn (And.intro @ap_nLst (And.intro @ap_nDct0 (And.intro @ap_Ano (And.intro @ap_New (And.intro @ap_M (And.intro @ap_Sl (And.intro @ap_pN (And.intro @ap_pE @ap_yes)))))))))))))))))))))))))))
noncomputable def goB := And.intro @ap_Set (And.intro @ap_Ret (And.intro @ap_Expr (And.intro @ap_Next (And.intro @ap_Brk (And.intro @ap_Seq (And.intro @ap_If (And.intro @ap_St (And.intro @ap_Asg (And.intro @ap_Aug (And.intro @ap_Fgt (And.intro @fgt_next (And.intro @fgt_ret (And.intro @fgt_brk (And.intro @wipe_nil (And.intro @wipe_cons (And.intro @bindT_nm (And.intro @bindT_tp (And.intro @bindT_tpi (And.intro @bindTs_nil @bindTs_cons)))))))))))))))))))
noncomputable def goC := And.intro @Res.bind_ok (And.intro @Res.stm_ok (And.intro @SRes.seq_next (And.intro @SRes.seq_ret (And.intro @SRes.seq_brk (And.intro @opt_some (And.intro @toB_bl (And.intro @aft_next (And.intro @aft_cnt (And.intro @aft_brk (And.intro @aft_ret (And.intro @retD_ret (And.intro @retD_next (And.intro @anoD_lst (And.intro @anoD_dct (And.intro @truD_bl (And.intro @truD_int (And.intro @list_set0 (And.intro @list_setS (And.intro @rep_0 (And.intro @rep_S (And.intro @obs (And.intro @iftr (And.intro @iffa (And.intro @ifT @ifF))))))))))))))))))))))))
noncomputable def goS := And.intro goA (And.intro goB goC)
section
variable {a b : Int} {S : Sto}
theorem subD_i : subD (.int a) (.int b) S = .ok (.int (a - b)) S := rfl
theorem ltD_i : ltD (.int a) (.int b) S = .ok (.bl (decide (a < b))) S := rfl
theorem leD_i : leD (.int a) (.int b) S = .ok (.bl (decide (a ≤ b))) S := rfl
theorem gtD_i : gtD (.int a) (.int b) S = .ok (.bl (decide (b < a))) S := rfl
theorem geD_i : geD (.int a) (.int b) S = .ok (.bl (decide (b ≤ a))) S := rfl
end
/-- what the numbers do -/
noncomputable def goI := And.intro @addD_int (And.intro @subD_i (And.intro @ltD_i (And.intro @leD_i (And.intro @gtD_i (And.intro @geD_i (And.intro @negD_int (And.intro @eqD_int (And.intro @neD_int (And.intro @int1_int (And.intro @int1_bl (And.intro @lenD_tup (And.intro @lenD_lst (And.intro @lenD_fls (And.intro @ixD_tup (And.intro @ixD_lst @ixD_fls)))))))))))))))
/-- the start -/
noncomputable def go0 := And.intro @startE_a1 (And.intro @startE_a2 (And.intro @startE_a3 @startE_a4))
theorem boolsD_map {f : List Bool → Bool} {bs : List Bool} {S : Sto} : boolsD f [.lst (bs.map D.bl)] S = .ok (.bl (f bs)) S := by
  simp only [boolsD, lsOf_lst, Option.bind_some, bools_map]
section
variable {S : Sto} {i : Int} {b : Bool} {x : Str} {xs : List D}
theorem is_int_int : isD "int" (.int i) S = .ok (.bl true) S := rfl
theorem is_bool_int : isD "bool" (.int i) S = .ok (.bl false) S := rfl
theorem is_str_int : isD "str" (.int i) S = .ok (.bl false) S := rfl
theorem is_tup_int : isD "tuple" (.int i) S = .ok (.bl false) S := rfl
theorem is_lst_int : isD "list" (.int i) S = .ok (.bl false) S := rfl
theorem is_dct_int : isD "dict" (.int i) S = .ok (.bl false) S := rfl
theorem is_int_bl : isD "int" (.bl b) S = .ok (.bl true) S := rfl
theorem is_bool_bl : isD "bool" (.bl b) S = .ok (.bl true) S := rfl
theorem is_str_bl : isD "str" (.bl b) S = .ok (.bl false) S := rfl
theorem is_tup_bl : isD "tuple" (.bl b) S = .ok (.bl false) S := rfl
theorem is_lst_bl : isD "list" (.bl b) S = .ok (.bl false) S := rfl
theorem is_int_str : isD "int" (.str x) S = .ok (.bl false) S := rfl
theorem is_bool_str : isD "bool" (.str x) S = .ok (.bl false) S := rfl
theorem is_str_str : isD "str" (.str x) S = .ok (.bl true) S := rfl
theorem is_tup_str : isD "tuple" (.str x) S = .ok (.bl false) S := rfl
theorem is_lst_str : isD "list" (.str x) S = .ok (.bl false) S := rfl
theorem is_int_tup : isD "int" (.tup xs) S = .ok (.bl false) S := rfl
theorem is_bool_tup : isD "bool" (.tup xs) S = .ok (.bl false) S := rfl
theorem is_str_tup : isD "str" (.tup xs) S = .ok (.bl false) S := rfl
theorem is_tup_tup : isD "tuple" (.tup xs) S = .ok (.bl true) S := rfl
theorem is_lst_tup : isD "list" (.tup xs) S = .ok (.bl false) S := rfl
theorem is_int_lst : isD "int" (.lst xs) S = .ok (.bl false) S := rfl
theorem is_bool_lst : isD "bool" (.lst xs) S = .ok (.bl false) S := rfl
theorem is_str_lst : isD "str" (.lst xs) S = .ok (.bl false) S := rfl
theorem is_tup_lst : isD "tuple" (.lst xs) S = .ok (.bl false) S := rfl
theorem is_lst_lst : isD "list" (.lst xs) S = .ok (.bl true) S := rfl
theorem is_int_non : isD "int" .non S = .ok (.bl false) S := rfl
theorem is_bool_non : isD "bool" .non S = .ok (.bl false) S := rfl
theorem is_str_non : isD "str" .non S = .ok (.bl false) S := rfl
theorem is_tup_non : isD "tuple" .non S = .ok (.bl false) S := rfl
theorem is_lst_non : isD "list" .non S = .ok (.bl false) S := rfl
end
/-- isinstance -/
noncomputable def goT := And.intro @is_int_int (And.intro @is_bool_int (And.intro @is_str_int (And.intro @is_tup_int (And.intro @is_lst_int (And.intro @is_dct_int (And.intro @is_int_bl (And.intro @is_bool_bl (And.intro @is_str_bl (And.intro @is_tup_bl (And.intro @is_lst_bl (And.intro @is_int_str (And.intro @is_bool_str (And.intro @is_str_str (And.intro @is_tup_str (And.intro @is_lst_str (And.intro @is_int_tup (And.intro @is_bool_tup (And.intro @is_str_tup (And.intro @is_tup_tup (And.intro @is_lst_tup (And.intro @is_int_lst (And.intro @is_bool_lst (And.intro @is_str_lst (And.intro @is_tup_lst (And.intro @is_lst_lst (And.intro @is_int_non (And.intro @is_bool_non (And.intro @is_str_non (And.intro @is_tup_non @is_lst_non)))))))))))))))))))))))))))))
end Pu
set_option Elab.async false
set_option linter.all false
set_option maxRecDepth 100000
namespace Pu
open PySem PySem.Spec PyProof.Rows L2
end Pu
set_option Elab.async false
set_option linter.all false
set_option maxRecDepth 100000
namespace L2
open PySem PySem.Spec PyProof.Rows
end L2
set_option Elab.async false
set_option linter.all false
set_option maxRecDepth 100000
namespace Pu
open PySem PySem.Spec PyProof.Rows L2
/-- set(xs) -/
noncomputable def rSetL (K : PySem.W.Frag) (w : World) : List V → Hp → VK → Prop := fun vs H Q => ∃ (a : Addr) (ns : List Int), vs = [V.ref a] ∧ SqL K H a (ns.map V.int) ∧ ns.length < 4095 ∧
  ∀ (p : Addr) (c : Nat), c ≤ ns.length → H p = none → Q (.ref p) (upd H p (SetO w p (fun j => decide (j ∈ ns)) c))
theorem VRs.ints_map {K : PySem.W.Frag} {am : AM} {H : Hp} : ∀ ns : List Int, VRs K am H (ns.map D.int) (ns.map V.int)
  | [] => .nil
  | n :: ns => .cons (.int n) (VRs.ints_map ns)
end Pu
set_option Elab.async false
set_option linter.all false
set_option maxRecDepth 100000
namespace Pu
open PySem PySem.Spec PyProof.Rows L2
noncomputable abbrev rowD : Int × Int → D := prD D.int D.int
end Pu
set_option Elab.async false
set_option linter.all false
set_option maxRecDepth 100000
namespace Pu
open PySem PySem.Spec PyProof.Rows L2
section
variable {cl : Str → Addr} {W : WX} {X : Cx} {a b o : Expr} {f g : Ev D} {pos apos cpos : Pos}
noncomputable def isBD (neg : Bool) (d e : D) (S : Sto) : Res D := match d, e with
  | .bl x, .bl y => .ok (.bl (if neg = true then !decide (x = y) else decide (x = y))) S
  | _, _ => .bad
@[simp] theorem isBD_bl {neg x y : Bool} {S : Sto} : isBD neg (.bl x) (.bl y) S = .ok (.bl (if neg = true then !decide (x = y) else decide (x = y))) S := id rfl
end
noncomputable def srcS (d : D) (S : Sto) : Res Src := match d with
  | .tup xs => srcT (.tup xs) S
  | d => srcL d S
noncomputable def iS (f : Ev D) : Ev Src := fun e S => (f e S).bind srcS
theorem iS_is (f : Ev D) (e : En) (S : Sto) : iS f e S = iT f e S ∨ iS f e S = iL f e S := by
  unfold iS iT iL
  cases f e S with
  | ok d S1 =>
    cases d with
    | tup xs => exact .inl rfl
    | _ => exact .inr rfl
  | exc c S1 => exact .inl rfl
  | bad => exact .inl rfl
theorem qi_s {cl : Str → Addr} {W : WX} {X : Cx} {a tgE : Expr} {f : Ev D} (ha : QE cl W X a f) : QI cl W X tgE a (iS f) := ⟨fun pins s σ H R I h => by
  obtain ⟨am, e, S, rs, re, p⟩ := h
  rcases iS_is f e S with q | q
  · exact (qi_t ha).run pins s σ H R I ⟨am, e, S, rs, re, by rw [← q]; exact p⟩
  · exact (qi_l ha).run pins s σ H R I ⟨am, e, S, rs, re, by rw [← q]; exact p⟩⟩
section
variable {dead vs : List Nat} {tg : Tg} {f g : Ev D} {a : Stm} {e : En} {S : Sto} {xs ys : List D} {t : Ev Bool}
@[simp] theorem ap_iS : iS f e S = (f e S).bind srcS := id rfl
@[simp] theorem srcS_tup : srcS (.tup xs) S = .ok (.tmp xs) S := id rfl
@[simp] theorem srcS_lst : srcS (.lst xs) S = .ok (.tmp xs) S := id rfl
@[simp] theorem srcS_fls : srcS (.fls xs) S = .ok (.tmp xs) S := id rfl
theorem srcS_ref {k : Nat} (h : S[k]? = some (.lst xs)) : srcS (.ref k) S = .ok (.st k xs) S := srcL_ref h
/-- data that are walked -/
noncomputable def isSq (d : D) (xs : List D) : Prop := d = .tup xs ∨ d = .lst xs ∨ d = .fls xs
theorem forS {d : D} (hf : f e S = .ok d S) (h : isSq d xs) : sFor dead tg (iS f) a e S = forD dead tg (.tmp xs) a xs e S := by
  rcases h with rfl | rfl | rfl <;> · rw [ap_For, ap_iS, hf, Res.bind_ok]; rfl
theorem forS_lst (hf : f e S = .ok (.lst xs) S) : sFor dead tg (iS f) a e S = forD dead tg (.tmp xs) a xs e S := forS hf (.inr (.inl rfl))
theorem forS_ref {k : Nat} (hf : f e S = .ok (.ref k) S) (h : S[k]? = some (.lst xs)) : sFor dead tg (iS f) a e S = forD dead tg (.st k xs) a xs e S := by
  rw [ap_For, ap_iS, hf, Res.bind_ok, srcS_ref h]
  rfl
theorem nLcS {d : D} (hf : f e S = .ok d S) (h : isSq d xs) (hl : xs.length < 1048576) (q : lcD tg (.tmp xs) t g (wipeE e vs) xs S = .ok ys S) : nLc vs tg (iS f) t g e S = .ok (.lst ys) S := by
  have e1 : iS f e S = .ok (.tmp xs) S := by
    rcases h with rfl | rfl | rfl <;> · rw [ap_iS, hf, Res.bind_ok]; rfl
  rw [ap_Lc, e1, Res.bind_ok]
  simp only [Src.items_tmp]
  rw [if_pos (Nat.le_of_lt (sz hl)), q, Res.bind_ok]
theorem nLcS_tup (hf : f e S = .ok (.tup xs) S) (hl : xs.length < 1048576) (q : lcD tg (.tmp xs) t g (wipeE e vs) xs S = .ok ys S) : nLc vs tg (iS f) t g e S = .ok (.lst ys) S := nLcS hf (.inl rfl) hl q
theorem nLcS_lst (hf : f e S = .ok (.lst xs) S) (hl : xs.length < 1048576) (q : lcD tg (.tmp xs) t g (wipeE e vs) xs S = .ok ys S) : nLc vs tg (iS f) t g e S = .ok (.lst ys) S := nLcS hf (.inr (.inl rfl)) hl q
/-- over a range -/
theorem nLcR1 {n : Nat} (hf : f e S = .ok (.int n) S) (hl : n < 1048576) (q : lcD tg (.tmp (rngD 0 n)) t g (wipeE e vs) (rngD 0 n) S = .ok ys S) : nLc vs tg (iR1 f) t g e S = .ok (.lst ys) S := by
  rw [ap_Lc, ap_iR1, hf, Res.bind_ok, srcR1_ap, if_pos (rg hl), Res.bind_ok]
  simp only [Src.items_tmp]
  rw [if_pos (Nat.le_of_lt (sz (by simp; omega))), q, Res.bind_ok]
end
theorem addT {α : Type} {f : α → D} {xs ys : List α} {S : Sto} (h : xs.length + ys.length < 1000000) : addD (tpD f xs) (tpD f ys) S = .ok (tpD f (xs ++ ys)) S := by
  unfold tpD
  rw [addD_tup, if_pos (Nat.le_of_lt (sz (by simp only [List.length_map]; omega))), List.map_append]
noncomputable abbrev intsT : List Int → D := tpD D.int
theorem rpRow : Rp rowD 1 := Rp.int.pr Rp.int
theorem rng_map {n : Nat} : rngD 0 n = (List.range n).map fun k : Nat => D.int (k : Int) := by
  simp [rngD]
theorem cut_from {α : Type} {xs : List α} {a : Nat} : cutL xs (some (a : Int)) none = xs.drop a := by
  unfold cutL
  rw [HT.sIx_nat, HT.sIx_none]
  by_cases h : a ≤ xs.length
  · rw [Nat.min_eq_left h, List.take_of_length_le (by simp)]
  · rw [Nat.min_eq_right (by omega), List.drop_of_length_le (Nat.le_refl _), List.drop_of_length_le (by omega)]
    simp
theorem cut_to {α : Type} {xs : List α} {a : Nat} : cutL xs none (some (a : Int)) = xs.take a := by
  unfold cutL
  rw [HT.sIx_nat, HT.sIx_none, List.drop_zero, Nat.sub_zero]
  by_cases h : a ≤ xs.length
  · rw [Nat.min_eq_left h]
  · rw [Nat.min_eq_right (by omega), List.take_of_length_le (Nat.le_refl _), List.take_of_length_le (by omega)]
@[simp] theorem slD_tup {xs : List D} {lo hi : Option Int} {S : Sto} : slD (.tup xs) lo hi S = .ok (.tup (cutL xs lo hi)) S := id rfl
@[simp] theorem slD_lst {xs : List D} {lo hi : Option Int} {S : Sto} : slD (.lst xs) lo hi S = .ok (.lst (cutL xs lo hi)) S := id rfl
end Pu
set_option Elab.async false
set_option linter.all false
set_option maxRecDepth 100000
namespace Pu
open PySem PySem.Spec PyProof.Rows L2
noncomputable def getD2 (o i z : D) (S : Sto) : Res D := match dcOf S o with
  | some kvs => match keyOf i with
    | some k => .ok ((getK kvs k).getD z) S
    | none => .bad
  | none => .bad
noncomputable def eGet (f g h : Ev D) : Ev D := fun e S => (f e S).bind fun o S => if (dcOf S o).isSome = true then (g e S).bind fun i S => (h e S).bind fun z S => getD2 o i z S else .bad
section
variable {f g h : Ev D} {e : En} {S : Sto}
@[simp] theorem ap_Get : eGet f g h e S = (f e S).bind fun o S => if (dcOf S o).isSome = true then (g e S).bind fun i S => (h e S).bind fun z S => getD2 o i z S else .bad := id rfl
end
noncomputable def putAll : List Nat → List D → En → Option En
  | [], [], e => some e
  | i :: is, d :: ds, e => putAll is ds (e.set i (some d))
  | _, _, _ => none
noncomputable def sPar (is : List Nat) (fs : List (Ev D)) : Stm := fun e S => (eArgs fs e S).stm e fun ds S => match putAll is ds e with
  | some e' => .next e' S
  | none => .bad
section
variable {cl : Str → Addr} {W : WX} {X : Cx} {a b c : Expr} {f g h : Ev D} {x y z : Str} {px py pz pt pt2 pos : Pos} {kt k2 : Nat}
@[simp] theorem ap_Par {is : List Nat} {fs : List (Ev D)} {e : En} {S : Sto} : sPar is fs e S = (eArgs fs e S).stm e fun ds S => match putAll is ds e with
  | some e' => .next e' S
  | none => .bad := id rfl
@[simp] theorem putAll_nil {e : En} : putAll [] [] e = some e := id rfl
@[simp] theorem putAll_cons {i : Nat} {is : List Nat} {d : D} {ds : List D} {e : En} : putAll (i :: is) (d :: ds) e = putAll is ds (e.set i (some d)) := id rfl
end
end Pu
set_option Elab.async false
set_option linter.all false
set_option maxRecDepth 100000
namespace Pu
open PySem PySem.Spec PyProof.Rows L2
theorem FitMul.ok {i j : Int} (h : FitMul i j) : IntMulOk i j := by
  rcases h with h | h | h
  · exact CMul.ok (.inl h)
  · exact CMul.ok (.inr h)
  · exact CMulX.ok h
section
variable {cl : Str → Addr} {W : WX} {X : Cx} {a : Expr} {f : Ev D} {pos : Pos} {x : Str}
theorem qe_gInt {i : Int} (hg : Gl X x) (hm : ∃ t, X.mg x = some (.int i t)) (hd : (x == ("__debug__" : Str)) = false := by decide) : QE cl W X (.Name x pos) (eC (.int i)) := by
  obtain ⟨t, e⟩ := hm
  exact qe_glob (v := .int i) hg e ⟨t, rfl⟩ (fun _ _ => .int i) hd
theorem qe_gStr {i : Str} (hg : Gl X x) (hm : ∃ t, X.mg x = some (.str i t)) (hd : (x == ("__debug__" : Str)) = false := by decide) : QE cl W X (.Name x pos) (eC (.str i)) := by
  obtain ⟨t, e⟩ := hm
  exact qe_glob (v := .str i) hg e ⟨t, rfl⟩ (fun _ _ => .str i) hd
/-- a tuple of ints that stands in the module -/
noncomputable def GT (K : PySem.W.Frag) (mg : Str → Option Value) (x : Str) (ns : List Int) : Prop := ∃ (p : Addr) (o : Obj) (its : Array Value) (n : Nat), mg x = some (.ref p) ∧ K.lookup p = some o ∧ o.cls = .type "tuple" ∧ o.dict = none ∧ o.data = .seq its n ∧ its.size ≤ sizeLine ∧ Vals (ns.map V.int) its.toList
theorem qe_gTup {ns : List Int} (hg : Gl X x) (hm : GT X.K X.mg x ns) (hd : (x == ("__debug__" : Str)) = false := by decide) : QE cl W X (.Name x pos) (eC (.tup (ns.map D.int))) := by
  obtain ⟨p, o, its, n, e, hk, hc, hd0, hs, hz, hv⟩ := hm
  exact qe_glob (v := .ref p) hg e rfl (fun am H => .tup (.inr ⟨o, its, n, hk, hc, hd0, hs, hz, hv⟩) (VRs.ints_map ns)) hd
end
end Pu
set_option Elab.async false
set_option linter.all false
set_option maxRecDepth 100000
namespace Pu
open PySem PySem.Spec PyProof.Rows L2
noncomputable def enumL (xs : List D) : List D := (List.range xs.length).map fun i => .tpi [.int (i : Nat), xs[i]?.getD .non]
end Pu
set_option Elab.async false
set_option linter.all false
set_option maxRecDepth 100000
set_option maxHeartbeats 4000000
namespace Pu
open PySem PySem.Spec PyProof.Rows L2
end Pu
set_option Elab.async false
set_option linter.all false
set_option maxRecDepth 100000
namespace Pu
open PySem PySem.Spec PyProof.Rows L2
noncomputable def eBits (f : Ev D) : Ev D := fun e S => (f e S).bind fun d S => match d with
  | .int i => .ok (.int (Builtin.Int.intBits i : Nat)) S
  | _ => .bad
noncomputable instance (a b : Int) : Decidable (RgOk a b) := by unfold RgOk; infer_instance
noncomputable def rgN (i j : Int) (S : Sto) : Res DO := if RgOk i j then .ok (.lst (rngD i j)) S else .bad
noncomputable def nRg1 (f : Ev D) : Ev DO := fun e S => (f e S).bind fun d S => match d with
  | .int i => rgN 0 i S
  | _ => .bad
theorem rg_vrs {K : PySem.W.Frag} {am : AM} {H : Hp} (i j : Int) : VRs K am H (rngD i j) (rgV i j) := by
  unfold rngD rgV
  generalize List.range (j - i).toNat = l
  induction l with
  | nil => exact .nil
  | cons a l ih => exact .cons (.int _) ih
section
variable {cl : Str → Addr} {W : WX} {X : Cx} {a b : Expr} {f g : Ev D} {p p2 apos pos pos2 : Pos}
theorem rg_ok {am : AM} {H : Hp} {S : Sto} {σ : L2.St} {i j : Int} {Q : VK} (rs : RelS X.K cl am S H) {am0 : AM} {H0 : Hp} (g : Grow am0 am H0 H) (p : PostN X.K cl W σ am0 H0 (rgN i j S) Q) : RgOk i j ∧ ∀ q, H q = none → Q (.ref q) (upd H q (.lst (rgV i j))) := by
  unfold rgN at p
  by_cases h : RgOk i j
  · rw [if_pos h] at p
    exact ⟨h, fun q hq => PostN.laid p g rs hq ⟨_, upd_same, rg_vrs i j⟩⟩
  · rw [if_neg h] at p
    exact p.elim
theorem qn_rg1 (hc : X.calm = true) (hg : Gl X "list") (hm : X.mg "list" = none) (hg2 : Gl X "range") (hm2 : X.mg "range" = none) (ha : QE cl W X a f)
    (na : starEach [a] X.env = (false, eval a X.env) :: starEach [] X.env := by rfl) (nb : starEach [.Call (.Name "range" p2) [a] [] pos2] X.env = (false, eval (.Call (.Name "range" p2) [a] [] pos2) X.env) :: starEach [] X.env := by rfl) :
    QN cl W X (.Call (.Name "list" p) [.Call (.Name "range" p2) [a] [] pos2] [] pos) (nRg1 f) :=
  (pe_listRg hc hg hm (prg_1 hg2 hm2 ha na) nb).imp fun σ H Q ⟨am, e, S, rs, re, q0⟩ =>
    ⟨am, e, S, rs, re, (PostN.step q0).imp fun x H1 ⟨am1, S1, d, _, g1, rs1, rv, p1⟩ => by
      cases rv with
      | int i => exact ⟨i, rfl, rg_ok rs1 g1 p1⟩
      | _ => exact p1.elim⟩
end
@[simp] theorem ap_bits : eBits f e S = (f e S).bind fun d S => match d with
  | .int i => .ok (.int (Builtin.Int.intBits i : Nat)) S
  | _ => .bad := id rfl
theorem nRg1_ok {f : Ev D} {e : En} {S : Sto} {i : Int} (h : f e S = .ok (.int i) S) (h0 : -1000000 < i) (h1 : i < 1048576) : nRg1 f e S = .ok (.lst (rngD 0 i)) S := by
  unfold nRg1 rgN
  rw [h, Res.bind_ok]
  simp only
  rw [if_pos (by unfold RgOk; omega)]
end Pu
set_option Elab.async false
set_option linter.all false
set_option maxRecDepth 100000
set_option maxHeartbeats 4000000
namespace Pu
open PySem PySem.Spec PyProof.Rows L2
/-- enumerate of data that stand still -/
noncomputable def srcEA (d : D) (S : Sto) : Res Src := match d with
  | .lst xs => .ok (.tmp (enumL xs)) S
  | .fls xs => .ok (.tmp (enumL xs)) S
  | .tup xs => .ok (.tmp (enumL xs)) S
  | _ => .bad
noncomputable def iEA (f : Ev D) : Ev Src := fun e S => (f e S).bind srcEA
@[simp] theorem ap_iEA {f : Ev D} {e : En} {S : Sto} : iEA f e S = (f e S).bind srcEA := id rfl
end Pu
set_option Elab.async false
set_option linter.all false
set_option maxRecDepth 100000
namespace Pu
open PySem PySem.Spec PyProof.Rows L2
end Pu
set_option Elab.async false
set_option linter.all false
set_option maxRecDepth 100000
namespace Pu
open PySem PySem.Spec PyProof.Rows L2
end Pu
set_option Elab.async false
set_option linter.all false
set_option maxRecDepth 100000
namespace Pu
open PySem PySem.Spec PyProof.Rows L2
end Pu
set_option Elab.async false
set_option linter.all false
set_option maxRecDepth 100000
namespace Pu
open PySem PySem.Spec PyProof.Rows L2
/-- an own class of refusals -/
structure ClsE (K : PySem.W.Frag) (mg : Str → Option Value) (cl : Str → Addr) (x : Str) : Prop where
  g : mg x = some (.ref (cl x))
  e : PySem.W.excIn K (cl x) [.type "ValueError", .type "Exception", .type "BaseException", .type "object"] "ValueError.__new__" = true
  k : PySem.W.keepIn K (.ref (cl x)) = true
  b : PySem.W.subIn K (.ref (cl x)) (.type "BaseException") = some true
  t : PySem.W.typeIn K (.ref (cl x)) = some (.type "type")
  d : PySem.W.hasDictIn K (cl x) = true
/-- the classes stand where the names of the text say -/
noncomputable def clK (K : PySem.W.Frag) : Str → Addr := fun x => match PySem.W.nsIn K mainGlobals x with
  | some (some (.ref f)) => f
  | _ => 0
theorem clK_of {K : PySem.W.Frag} {x : Str} {f : Addr} (a : PySem.W.nsIn K mainGlobals x = some (some (.ref f))) : clK K x = f := by
  unfold clK
  rw [a]
theorem clsE_mk {K : PySem.W.Frag} {h : Heap} {mg : Str → Option Value} {x : Str} {f : Addr} (X : K.In h) (G : h.Ns mainGlobals mg) (a : PySem.W.nsIn K mainGlobals x = some (some (.ref f)))
    (e : PySem.W.excIn K f [.type "ValueError", .type "Exception", .type "BaseException", .type "object"] "ValueError.__new__" = true) (k : PySem.W.keepIn K (.ref f) = true) (b : PySem.W.subIn K (.ref f) (.type "BaseException") = some true) (t : PySem.W.typeIn K (.ref f) = some (.type "type")) (d : PySem.W.hasDictIn K f = true) : ClsE K mg (clK K) x := by
  have q := clK_of a
  exact ⟨by rw [q]; exact PySem.W.mg_of X G a, by rw [q]; exact e, by rw [q]; exact k, by rw [q]; exact b, by rw [q]; exact t, by rw [q]; exact d⟩
theorem takesN {X : Cx} : L2N.Takes X (fun _ _ _ _ => False) := fun _ _ x => by
  obtain ⟨_, _, _, _, _, _, _, _, _, _, _, _, _, _, _, _, z⟩ := x
  exact z.elim
noncomputable def sRaise (x : Str) : Stm := fun e S => .exc x e S
section
variable {cl : Str → Addr} {W : WX} {X : Cx}
theorem qs_raise {x m : Str} {j} {p p2 pos pos' : Pos} (hc : X.calm = true) (tk : L2N.Takes X W) (E : ClsE X.K X.mg cl x) (hg : Gl X x) (hdb : (x == ("__debug__" : Str)) = false := by decide) :
    QS cl W X (.Raise (some (.Call (.Name x p) [.Constant (.str m) j p2] [] pos)) none pos') (sRaise x) :=
  (L2N.ps_raise hc tk (L2N.pmk_own PySem.F.excBase_ValueError E.e E.g E.k (L2.raises_own E.b E.t) hg hdb)).imp fun D σ H ⟨am, e, S, rs, re, p⟩ => p am σ H .refl rs re
end
noncomputable def sTry (ks : List (Str × Bool)) (i : Nat) (u : Stm) (hd : Str → Stm) : Stm := fun e S => match u e S with
  | .exc c e1 S1 => match ks.lookup c with
    | some true => if e1[i]?.isSome = true then (match hd c (e1.set i none) S1 with
      | .next e2 S2 => .next (e2.set i none) S2
      | .brk e2 S2 => .brk (e2.set i none) S2
      | .cnt e2 S2 => .cnt (e2.set i none) S2
      | .ret d S2 => .ret d S2
      | _ => .bad) else .bad
    | some false => .exc c e1 S1
    | none => .bad
  | r => r
noncomputable def noW : WX := fun _ _ _ _ => False
/-- the reading of an except suite; a: what was caught, in slot i -/
noncomputable def TDh (K : PySem.W.Frag) (cl : Str → Addr) (i : Nat) (a : Addr) (f : Stm) : TS := fun D σ H => ∃ am e S, RelS K cl am S H ∧ RelE K am H e σ ∧ σ[i]? = some (some (.ref a)) ∧ PostS K cl noW am H (f e S) D
noncomputable def QH (cl : Str → Addr) (X : Cx) (i : Nat) (c : Str) (suite : List Stmt) (f : Stm) : Prop := ∀ (a : Addr) (oe : Obj) (pn : List (Addr × Obj)), L2N.Zn (.ref (cl c)) none oe → (∃ vs, oe.data = .fields vs) → PSs (X.suite a ((a, oe) :: pn)) suite (TDh X.K cl i a f)
theorem RelE.hold {K : PySem.W.Frag} {am : AM} {H : Hp} {e : En} {σ : L2.St} (r : RelE K am H e σ) (i : Nat) (v : V) : RelE K am H (e.set i none) (σ.set i (some v)) := ⟨by rw [List.length_set, List.length_set]; exact r.len, fun j x hx => by
  by_cases hj : i = j
  · subst hj
    rw [List.getElem?_set_self'] at hx
    cases q : e[i]? with
    | none => rw [q] at hx; cases hx
    | some z =>
      rw [q] at hx
      cases Option.some.inj hx
  · rw [List.getElem?_set_ne hj] at hx ⊢
    exact r.get j x hx⟩
section
variable {cl : Str → Addr} {W : WX} {X : Cx}
theorem qs_try {ks : List (Str × Bool)} {x n : Str} {c : Value} {i : Nat} {body suite : List Stmt} {b₀ : Stmt} {np pos pos' : Pos} {u : Stm} {hd : Str → Stm} (hs : X.stack = X.env :: X.outer) (hf : X.env.frame = some X.env.locals) (hN : X.N.Nodup) (hi : X.N[i]? = some n) (hln : X.env.kindOf n = some .local) (hc : Names X x c) (tk : L2N.Takes X W)
    (hb : ∀ (W' : WX) (pn : List (Addr × Obj)) (xe : Value → Shared → Prop), L2N.Takes (X.tr pn xe) W' → PassesOwn (model X.prog X.w) X.A X.env xe → QB cl W' (X.tr pn xe) body u)
    (hks0 : ∀ p ∈ ks, PySem.W.exmOne X.K (.ref (cl p.1)) c = some p.2)
    (hsu0 : ∀ p ∈ ks, p.2 = true → QH cl X i p.1 (b₀ :: suite) (hd p.1)) :
    QS cl W X (.Try body [.ExceptHandler (some (.Name x np)) (some n) (b₀ :: suite) pos'] [] [] pos) (sTry ks i u hd) := by
  have hks : ∀ y b, ks.lookup y = some b → PySem.W.exmOne X.K (.ref (cl y)) c = some b := fun y b h => hks0 (y, b) (mem_of_lookup h)
  have hsu : ∀ y, ks.lookup y = some true → QH cl X i y (b₀ :: suite) (hd y) := fun y h => hsu0 (y, true) (mem_of_lookup h) rfl
  refine (L2N.ps_try_as (tb := fun W' => TDs X.K cl W' u) (ts := fun a cls d D σ H => ∃ y, cls = .ref (cl y) ∧ d = none ∧ ks.lookup y = some true ∧ TDh X.K cl i a (hd y) D σ H) (Wout := W) hs hf hN hi hln hc tk hb (fun a oe cls d pn hz hfl => ⟨fun pins s σ H D I h => ?_⟩)).imp ?_
  · obtain ⟨y, rfl, rfl, hl, h⟩ := h
    exact (hsu y hl a oe pn hz hfl).run pins s σ H D I h
  · intro D σ H ⟨am, e, S, rs, re, p⟩
    refine ⟨am, e, S, rs, re, ?_⟩
    unfold sTry at p
    cases q : u e S with
    | next e1 S1 => rw [q] at p; exact p
    | ret d S1 => rw [q] at p; exact p
    | brk e1 S1 => rw [q] at p; exact p
    | cnt e1 S1 => rw [q] at p; exact p
    | bad => rw [q] at p; exact p.elim
    | exc y e1 S1 =>
      rw [q] at p
      simp only at p
      intro am' σ' H' g rs' re'
      cases hl : ks.lookup y with
      | none => rw [hl] at p; exact p.elim
      | some b =>
        rw [hl] at p
        refine ⟨b, hks y b hl, fun hb1 a na => ?_, fun hb0 => ?_⟩
        · subst hb1
          simp only at p
          by_cases h9 : e1[i]?.isSome = true
          · rw [if_pos h9] at p
            have hi9 : i < σ'.length := by
              rw [← re'.len]
              exact (List.getElem?_eq_some_iff.mp (Option.isSome_iff_exists.mp h9).choose_spec).1
            refine ⟨y, rfl, rfl, hl, am', e1.set i none, S1, rs', re'.hold i _, by rw [List.getElem?_set_self hi9], ?_⟩
            cases q2 : hd y (e1.set i none) S1 with
            | next e2 S2 =>
              rw [q2] at p
              exact fun am2 σ2 H2 g2 rs2 re2 => p am2 _ H2 (g.trans g2) rs2 (re2.wipe [i])
            | brk e2 S2 =>
              rw [q2] at p
              exact fun am2 σ2 H2 g2 rs2 re2 => p am2 _ H2 (g.trans g2) rs2 (re2.wipe [i])
            | cnt e2 S2 =>
              rw [q2] at p
              exact fun am2 σ2 H2 g2 rs2 re2 => p am2 _ H2 (g.trans g2) rs2 (re2.wipe [i])
            | ret d S2 =>
              rw [q2] at p
              exact fun am2 v2 H2 g2 rs2 rv2 => p am2 v2 H2 (g.trans g2) rs2 rv2
            | exc y2 e2 S2 => rw [q2] at p; exact p.elim
            | bad => rw [q2] at p; exact p.elim
          · rw [if_neg h9] at p
            exact p.elim
        · subst hb0
          exact p am' σ' H' g rs' re'
end
noncomputable def tHE (i : Nat) (a : Addr) (v : Bool) : TE := fun σ H Q => σ[i]? = some (some (.ref a)) ∧ ∀ H', (∀ b o, H b = some o → H' b = some o) → Q (.bl v) H'
noncomputable abbrev HE (X : Cx) (i : Nat) (a : Addr) (ex : Expr) (v : Bool) : Prop := PE X ex (tHE i a v)
theorem RelS.wide {K : PySem.W.Frag} {cl : Str → Addr} {am : AM} {S : Sto} {H H' : Hp} (r : RelS K cl am S H) (k : ∀ b o, H b = some o → H' b = some o) : Grow am am H H' ∧ RelS K cl am S H' := by
  have g : Grow am am H H' := ⟨⟨[], by simp⟩, fun _ h h' => absurd h h', fun _ h h' => absurd h h', fun _ h => h, fun b o h _ => k b o h⟩
  exact ⟨g, r.len, r.nd, fun n u a h1 h2 => (r.ob n u a h1 h2).mono g fun w hw => k a w hw, fun a ha => by
    obtain ⟨o, e⟩ := r.there a ha
    exact ⟨o, k a o e⟩⟩
section
variable {cl : Str → Addr} {X : Cx}
theorem call_isP {a D : Addr} {oe : Obj} (C : ExcC X.K D) (hp : (a, oe) ∈ X.pn) (hz : Zc (.ref D) none oe) (hf : ∃ vs, oe.data = .fields vs) : CallR X (.builtin "isinstance") (rIsE X.K D a) := by
  intro pins s σ H xs us Q I r h
  obtain ⟨c, cv, b, rfl, hcv, e, q⟩ := h
  cases r with
  | cons rx rr =>
    cases rr with
    | cons rt rr =>
      cases rr
      cases rx
      have ec := hcv _ rt
      subst ec
      obtain ⟨hget, _⟩ := I.pin (a, oe) (List.mem_append_left _ hp)
      obtain ⟨vs, hv⟩ := hf
      have J : PySem.W.InstAt s.heap a oe D none := by
        obtain ⟨oc, od, oda, osl⟩ := oe
        obtain ⟨h1, h2⟩ := hz
        dsimp only at h1 h2 hv
        subst h1 h2 hv
        exact ⟨hget, rfl, rfl, trivial⟩
      exact PySem.W.kia_one (PySem.W.handS_kitx_exc C.hg C.hk C.hs C.hd C.ha C.hn C.ht C.hm) I.kIn J e (fun z => nomatch z) fun tk => ⟨.bl b, H, I.kept (t' := tk) fun _ _ z => z, rfl, q⟩
end
section
variable {cl : Str → Addr} {X : Cx} {i : Nat} {a : Addr} {oe : Obj} {c x y : Str} {q p1 p2 pos : Pos} {b b1 b2 v : Bool}
theorem he_is (hz : L2N.Zn (.ref (cl c)) none oe) (hf : ∃ vs, oe.data = .fields vs) (hp : (a, oe) ∈ X.pn) (C : ExcC X.K (cl c)) (hgI : Gl X "isinstance") (hmI : X.mg "isinstance" = none) (he : PE X (.Name x p1) (tVar i)) (hgY : Gl X y) (EY : X.mg y = some (.ref (cl y))) (hk : PySem.W.kitOne X.K (.ref (cl c)) (.ref (cl y)) = some b) (hdb : (y == ("__debug__" : Str)) = false := by decide)
    (h0 : starEach [.Name x p1, .Name y p2] X.env = (false, eval (.Name x p1) X.env) :: starEach [.Name y p2] X.env := by rfl) (h1 : starEach [.Name y p2] X.env = (false, eval (.Name y p2) X.env) :: starEach [] X.env := by rfl) (hpl : (backTo pos (starEach [.Name y p2] X.env)).any (·.1) = false := by rfl) : HE X i a (.Call (.Name "isinstance" q) [.Name x p1, .Name y p2] [] pos) b :=
  (pe_callB (call_isP C hp hz.zc hf) hgI hmI (by decide +kernel) (pa_cons he (pa_cons (pe_glob (v := .ref (cl y)) hgY EY rfl hdb) pa_nil h1) h0) (by decide) (by decide) h0 hpl).imp fun σ H Q ⟨hσ, q⟩ => ⟨.ref a, hσ, .ref (cl y), .ref (cl y), b, rfl, fun u h => h, hk, q H fun _ _ z => z⟩
theorem he_isV (hz : L2N.Zn (.ref (cl c)) none oe) (hf : ∃ vs, oe.data = .fields vs) (hp : (a, oe) ∈ X.pn) (C : ExcC X.K (cl c)) (hgI : Gl X "isinstance") (hmI : X.mg "isinstance" = none) (he : PE X (.Name x p1) (tVar i)) (hgY : Gl X "ValueError") (hmY : X.mg "ValueError" = none) (hk : PySem.W.kitOne X.K (.ref (cl c)) (.type "ValueError") = some b)
    (h0 : starEach [.Name x p1, .Name "ValueError" p2] X.env = (false, eval (.Name x p1) X.env) :: starEach [.Name "ValueError" p2] X.env := by rfl) (h1 : starEach [.Name "ValueError" p2] X.env = (false, eval (.Name "ValueError" p2) X.env) :: starEach [] X.env := by rfl) (hpl : (backTo pos (starEach [.Name "ValueError" p2] X.env)).any (·.1) = false := by rfl) : HE X i a (.Call (.Name "isinstance" q) [.Name x p1, .Name "ValueError" p2] [] pos) b :=
  (pe_callB (call_isP C hp hz.zc hf) hgI hmI (by decide +kernel) (pa_cons he (pa_cons (pe_bltn (v := .ty "ValueError") hgY hmY (by decide +kernel) rfl) pa_nil h1) h0) (by decide) (by decide) h0 hpl).imp fun σ H Q ⟨hσ, q⟩ => ⟨.ref a, hσ, .ty "ValueError", .type "ValueError", b, rfl, fun u h => h, hk, q H fun _ _ z => z⟩
noncomputable def tHB (n i : Nat) (a : Addr) (v : Bool) : TS := fun D σ H => σ[i]? = some (some (.ref a)) ∧ σ.length = n ∧ ∀ H', (∀ b o, H b = some o → H' b = some o) → D.rt (.bl v) H'
noncomputable abbrev HB (X : Cx) (i : Nat) (a : Addr) (st : List Stmt) (v : Bool) : Prop := PSs X st (tHB X.N.length i a v)
end
structure FnE (P : Program) (w : World) (K : PySem.W.Frag) (mg : Str → Option Value) (base : Heap) (k : Nat) (f : Addr) (fd : FuncData) (ps : List Str) (cl : Str → Addr) (c : Str) (v : Bool) : Prop where
  run : ∀ (A : Around) (outer : List PySem.Env) (s : Shared) (H : Hp) (args : Args) (us : List Value) (Q : VK) (E : XK) (p : Addr × Obj), L2H.RoomH k A → L2H.Hot1 A p → L2H.PinOk outer H s p → Env0 P w K mg base A outer s H → BindsTo s fd args (ps.zip us) → Vals [.ref p.1] us → L2N.Zn (.ref (cl c)) none p.2 →
    (∀ H', (∀ b o, H b = some o → H' b = some o) → Q (.bl v) H') → codeAny (model P w) A (.call (.ref f) args) (CR (L2N.CX P w) outer P w H s Q E) s
structure DefE (P : Program) (w : World) (K : PySem.W.Frag) (mg : Str → Option Value) (base : Heap) (cl : Str → Addr) (x : Str) (k : Nat) (ps : List Str) (c : Str) (v : Bool) : Prop where
  ex : ∃ f fd, FnE P w K mg base k f fd ps cl c v ∧ mg x = some (.ref f) ∧ PySem.W.keepIn K (.ref f) = true ∧ ∀ us : List Value, us.length = ps.length → bindArgs fd ⟨us, []⟩ = pure (ps.zip us)
section
variable {P : Program} {w : World} {K : PySem.W.Frag} {mg : Str → Option Value} {base : Heap} {cl : Str → Addr}
theorem DefE.mono {x : Str} {k j : Nat} {ps : List Str} {c : Str} {v : Bool} (d : DefE P w K mg base cl x k ps c v) (h : k ≤ j) : DefE P w K mg base cl x j ps c v :=
  let ⟨f, fd, a, b⟩ := d.ex
  ⟨f, fd, ⟨fun A outer s H args us Q E p hr => a.run A outer s H args us Q E p (hr.mono h)⟩, b⟩
theorem defE_ok {k : Nat} {N : List Str} {p0 : Str} {st : Stmt} {x c : Str} {v : Bool} (I : DefIn K mg x st [p0]) (Sc : FnScope N [p0] (defScope st))
    (hb : ∀ (f : Addr) (cdv : Value) (A : Around) (outer : List PySem.Env) (s : Shared) (H : Hp) (E : XK) (a : Addr) (oe : Obj), L2N.Zn (.ref (cl c)) none oe → (∃ vs, oe.data = .fields vs) → A.handled = some (.ref a) → L2H.RoomH k (A.deeper (envOfC x (defScope st) s.heap.objs.size f cdv)) →
      HB (L2H.cxH (L2N.CX P w) P w K mg base N x (defScope st) f cdv A outer s H E (a, oe)) 0 a (defBody st) v) :
    DefE P w K mg base cl x (k + 1) [p0] c v := by
  obtain ⟨f, fd, Fn, hm, hbd⟩ := I.ex
  have Fn2 := Fn
  obtain ⟨oc, od, kV, doc, pm, an, cdv, ct, osl, rfl, lk, hcd⟩ := Fn.ex
  refine ⟨f, _, ⟨fun A outer s H args us Q E p hr hot hpin e0 hbi r hz hq => ?_⟩, hm, Fn2.kp, hbd⟩
  have hl : [V.ref p.1].length = [p0].length := rfl
  have KX : K.In s.heap := e0.mod.kin.keeps fun b o e => (e0.bs b o e).1
  have lim : s.heap.NoLimit := e0.mod.nolimit.keeps fun b o e => (e0.bs b o e).1
  have hkind : ∀ y ∈ [p0].zip us, (defScope st).names.lookup y.1 = some .local ∨ ((defScope st).names.lookup y.1 = some .cell ∧ ((cellsFrom (s.heap.objs.size + 1) (defScope st).names []).lookup y.1).isSome = true) := fun ⟨n, v⟩ hy => by
    rcases Sc.par n (List.of_mem_zip hy).1 with q | q
    · exact .inl q
    · exact .inr ⟨q, PySem.W.cellsFrom_some _ _ _ (.inl q)⟩
  refine codeAny_call_function hr.depth (KX _ _ lk) rfl Sc.co Sc.gen rfl (PySem.W.codeRec_of KX hcd) (hbi _ _ _ _ ?_)
  refine wpAny_newFunctionEnv_cells Sc.kind hkind fun env he s1 x1 => ?_
  subst he
  refine ⟨lim.keeps x1.toInCall.keep, codeAny_func ?_⟩
  obtain ⟨hh, vs, hd, _⟩ := hot
  have ht := hb f cdv A outer s H E p.1 p.2 hz ⟨vs, hd⟩ hh (hr.deeper _)
  have I1 : Inv (L2H.cxH (L2N.CX P w) P w K mg base N x (defScope st) f cdv A outer s H E p) [] (L2.start N [.ref p.1]) H s1 := L2H.inv_startH Sc hpin e0 hl r x1
  have h0 : (L2.start N [V.ref p.1])[0]? = some (some (V.ref p.1)) := rfl
  have hn0 : (L2.start N [V.ref p.1]).length = N.length := by
    have hpl : [p0].length ≤ N.length := by
      have := congrArg List.length Sc.pre
      rw [List.length_take] at this
      omega
    unfold L2.start
    rw [List.length_append, List.length_map, List.length_replicate]
    simp only [List.length_cons, List.length_nil] at hpl ⊢
    omega
  refine wpAny_mono (ht.run [] s1 (L2.start N [.ref p.1]) H { nx := fun _ H' => Q .non H', rt := Q } I1 ⟨h0, hn0, hq⟩) (fun fl s' hs => ?_) fun e s' hs => hs
  have fin : ∀ {σ' : L2.St} {H' : Hp} {v : V} {u : Value}, Inv (L2H.cxH (L2N.CX P w) P w K mg base N x (defScope st) f cdv A outer s H E p) [] σ' H' s' → RelV v u → Q v H' → CE outer P w H s Q u s' :=
    fun {σ' H' v u} J rv q => ⟨v, H', J.os, J.bare, J.base, J.hok, rv, q⟩
  cases fl with
  | ret u =>
    obtain ⟨v, σ', H', J, rv, q⟩ := hs
    exact fin J rv q
  | next =>
    obtain ⟨σ', H', J, q⟩ := hs
    exact fin (v := V.non) (u := Value.none) J rfl q
  | brk =>
    obtain ⟨_, _, _, q⟩ := hs
    exact False.elim q
  | cont =>
    obtain ⟨_, _, _, q⟩ := hs
    exact False.elim q
end
section
variable {cl : Str → Addr} {X : Cx} {i k : Nat} {a : Addr} {oe : Obj} {c x y n : Str} {q p1 pos : Pos} {v : Bool} {ps : List Str}
theorem he_fn (hz : L2N.Zn (.ref (cl c)) none oe) (hf : ∃ vs, oe.data = .fields vs) (hp : (a, oe) ∈ X.pn) (hh : X.A.handled = some (.ref a)) (G : DefE X.prog X.w X.K X.mg X.base cl x k ps c v) (hps : ps.length = 1) (hr : L2H.RoomH k X.A) (hg : Gl X x) (he : PE X (.Name n p1) (tVar i)) (hdb : (x == ("__debug__" : Str)) = false := by decide)
    (h0 : starEach [.Name n p1] X.env = (false, eval (.Name n p1) X.env) :: starEach [] X.env := by rfl) (hpl : (backTo pos (starEach [] X.env)).any (·.1) = false := by rfl) : HE X i a (.Call (.Name x q) [.Name n p1] [] pos) v := by
  obtain ⟨f, fd, F, hm, hk, hbd⟩ := G.ex
  refine ⟨fun pins s σ H Q I h => ?_⟩
  obtain ⟨hσ, hq⟩ := h
  refine wpAny_Call_Name_kw (ld_glob I hg hm ?_ hdb)
  have ha : PA X [.Name n p1] (tCons (tVar i) tNil) := pa_cons he pa_nil h0
  refine PySem.W.callWith_K (h₀ := X.base) I.ok.mod.kin hk (thn (ha.run pos pins s σ H (fun vs H1 => vs = [V.ref a] ∧ H = H1) I ⟨_, hσ, rfl, rfl⟩) fun us s1 ⟨vs, H1, I1, r, ev, eH⟩ => ⟨I1.kIn, ?_⟩) h0 hpl
  subst ev eH
  have P1 := I1.pin (a, oe) (List.mem_append_left _ hp)
  have hpin : L2H.PinOk X.stack H s1 (a, oe) := ⟨P1.1, P1.2.1, fun hm => (List.mem_cons.mp (I1.stkSub a hm)).elim P1.2.2.1 P1.2.2.2.1, P1.2.2.2.2⟩
  obtain ⟨vs, hd⟩ := hf
  have hot : L2H.Hot1 X.A (a, oe) := ⟨hh, vs, hd, hz.2.2 vs hd⟩
  have hul : us.length = ps.length := by rw [← r.length, hps]; rfl
  have b : BindsTo s1 fd ⟨us, []⟩ (ps.zip us) := .of_eq (hbd us hul)
  refine wpAny_call (codeAny_mono (F.run X.A X.stack s1 H ⟨us, []⟩ us Q (fun _ _ _ => False) (a, oe) hr hot hpin I1.env0 b r hz hq) fun r2 s' hq2 => ?_)
  cases r2 with
  | error e => exact (cx_no hq2).elim
  | ok fl =>
    cases fl with
    | ret u => exact I1.after hq2
    | next => exact False.elim hq2
    | brk => exact False.elim hq2
    | cont => exact False.elim hq2
theorem kc_nil {P : Str × Bool → Prop} : ∀ p ∈ ([] : List (Str × Bool)), P p := fun p h => absurd h List.not_mem_nil
theorem kc_cons {P : Str × Bool → Prop} {q : Str × Bool} {l : List (Str × Bool)} (h : P q) (t : ∀ p ∈ l, P p) : ∀ p ∈ q :: l, P p := fun p hp => by
  rcases List.mem_cons.mp hp with e | e
  · rw [e]; exact h
  · exact t p e
theorem kit_ref {K : PySem.W.Frag} {C c : Addr} {b : Bool} (hd : PySem.W.hasDictIn K C = true) (ht : PySem.W.typeIn K (.ref C) = some (.type "type")) (h : PySem.W.subIn K (.ref c) (.ref C) = some b) (hn : b = false → c ≠ C) : PySem.W.kitOne K (.ref c) (.ref C) = some b := by
  have e : PySem.W.kitCls K (.ref c) (.ref C) = some b := by
    obtain ⟨cd, hc, _⟩ := PySem.W.any_some hd
    show (if ((PySem.W.clsIn K C).isSome && PySem.W.typeIn K (.ref C) == some (.type "type")) = true then PySem.W.subIn K (.ref c) (.ref C) else none) = some b
    rw [hc, ht, if_pos (by rfl)]
    exact h
  unfold PySem.W.kitOne
  split
  · rename_i z
    cases b with
    | true => rfl
    | false => exact absurd (Value.ref.inj (beq_iff_eq.mp z)) (hn rfl)
  · exact e
theorem kit_ty {K : PySem.W.Frag} {T : String} {t : Value} (hm : PySem.W.kitMeta T = true) (h : PySem.W.subIn K t (.type T) = some true) : PySem.W.kitOne K t (.type T) = some true := by
  unfold PySem.W.kitOne
  split
  · rfl
  · show (if PySem.W.kitMeta T = true then PySem.W.subIn K t (.type T) else none) = some true
    rw [if_pos hm]
    exact h
noncomputable abbrev SpE (K : PySem.W.Frag) (n : Nat) (F : List D → Sto → Res D) : Sp := SpD K (clK K) n F
theorem roomH_mark {A : Around} {v : Option Value} {k : Nat} (r : Room k A) : L2H.RoomH k (A.mark v) := ⟨r.dp, r.un⟩
end
end Pu
set_option Elab.async false
set_option linter.all false
set_option maxRecDepth 100000
set_option maxHeartbeats 2000000
namespace PySem
open PySem.Calls HotX
section
variable {prog : Program} {w : World} {A : Around} {E : Value → Shared → Prop} {s : Shared}
theorem pyNext_list_end_hotP {it l x1 : Addr} {i : Nat} {items : Array Value} {Q : Option Value → Shared → Prop} (hot : HotAt A x1 s.heap) (hne : x1 ≠ it)
    (hit : s.heap.IsListIter it l i) (hl : s.heap.IsList l items) (hx : items[i]? = none)
    (hQ : ∀ h', Heap.ExtBut it s.heap h' → Q none { s with heap := h' }) : wpAny (model prog w) A (pyNext (.ref it)) Q E s := by
  obtain ⟨o, ho, hc, hd⟩ := id hit
  obtain ⟨ol, hol, _, nl, hdl⟩ := hl
  obtain ⟨hh, o1, vs1, h1, d1, c1⟩ := hot
  unfold pyNext
  refine wpAny_bind (wpAny_attempt (wpAny_callSpecial?_slot (name := Str.ofString "__next__") hit.typeIs slot_listiter_next
    (wpAny_call_entry slot_listiter_next hit.typeIs entry_listiter_next ?_ (args_listiter_next _))))
  show wpAny _ _ (field (.ref it) 0 >>= _) _ _ s
  refine wpAny_bind (wpAny_field ho hd (x := .ref l) rfl ?_)
  show wpAny _ _ (if (Value.ref l == Value.none) = true then _ else _) _ _ s
  rw [if_neg (show ¬ ((Value.ref l == Value.none) = true) from Bool.false_ne_true)]
  show wpAny _ _ (field (.ref it) 1 >>= _) _ _ s
  refine wpAny_bind (wpAny_field ho hd (x := .int i 0) rfl ?_)
  show wpAny _ _ (seqItems? (.ref l) >>= _) _ _ s
  refine wpAny_bind (wpAny_seqItems hol hdl ?_)
  simp only [Int.toNat_natCast, hx]
  refine wpAny_bind (wpAny_rule (wpAny_bind (wpAny_setField ho hd (by simp) ?_)))
  have h2 : (s.heap.update it (Obj.mapFields (·.setIfInBounds 0 Value.none))).get? x1 = some o1 := (Heap.get?_update_other _ _ (Ne.symm hne)).trans h1
  show wpAny _ _ (newExc (.type "StopIteration") [] >>= _) _ _ _
  refine wpAny_bind ?_
  simp only [newExc, newTuple]
  refine wpAny_bind (wpAny_newObj_type ?_ (by size_fits))
  refine wpAny_bind (m := firstArgMember _ _) (wpAny_of_eq (a := Value.none) (by first | rfl | (simp only [firstArgMember]; rfl)) ?_)
  refine wpAny_newObj_type ?_ (by size_fits)
  refine raiseNew_hot ⟨hh, o1, vs1, Heap.get?_push_of_some _ (Heap.get?_push_of_some _ h2), d1, c1⟩ (Nat.ne_of_lt (Heap.lt_size (Heap.get?_push_of_some _ h2))) (Heap.get?_push_size _ rfl) rfl (by first | (simp; done) | (simp; omega) | (simp only [Array.size_append]; simp; omega)) ?_
  refine wpAny_bind (wpAny_isInstance (T := "StopIteration") (b := true) ⟨_, Heap.get?_update_self _ (Heap.get?_push_size _ rfl) rfl, rfl⟩ isSubtype_stop ?_)
  refine wpAny_pure (hQ _ fun b o hb e => ?_)
  have e2 : (s.heap.update it (Obj.mapFields (·.setIfInBounds 0 Value.none))).get? b = some o := (Heap.get?_update_other _ _ (Ne.symm hb)).trans e
  rw [Heap.get?_update_other _ _ (Nat.ne_of_gt (Heap.lt_size (Heap.get?_push_of_some _ e2)))]
  exact Heap.get?_push_of_some _ (Heap.get?_push_of_some _ e2)
theorem walks_list_hotP {x1 : Addr} (hh : A.handled = some (.ref x1)) (I ax : Addr) (hne : ax ≠ I) (hx1 : x1 ≠ I) (items : Array Value) :
    Walks prog w A I [I, ax, x1] [I] items.size (fun i v => items[i]? = some v) (fun i h => (h.IsListIter I ax i ∧ h.IsList ax items) ∧ ∃ (o : Obj) (vs : Array Value), h.get? x1 = some o ∧ o.data = .fields vs ∧ vs[2]? = some .none) where
  sub := fun b hb => by simp at hb; simp [hb]
  frame := fun _ _ _ st hk => ⟨⟨st.1.1.at fun o e => hk I (by simp) o e, st.1.2.at fun o e => hk ax (by simp) o e⟩, by
    obtain ⟨o, vs, a, b, c⟩ := st.2
    exact ⟨o, vs, hk x1 (by simp) o a, b, c⟩⟩
  item := fun i s Q E hi st hQ => by
    refine wpAny_pyNext_list_item st.1.1 st.1.2 (x := items[i]) (by simp [hi]) fun h' hit' hs' => ?_
    obtain ⟨o, vs, a, b, c⟩ := st.2
    exact hQ _ h' s.toks (by simp [hi]) ⟨⟨hit', st.1.2.extBut hs'.extBut hne⟩, o, vs, hs'.extBut x1 o hx1 a, b, c⟩ fun b o hb e => hs'.extBut b o (fun h => hb (by simp [h])) e
  done := fun s Q E st hQ => pyNext_list_end_hotP ⟨hh, st.2⟩ hx1 st.1.1 st.1.2 (by simp) fun h' he' => hQ h' s.toks fun b o hb e => he' b o (fun h => hb (by simp [h])) e
  self := fun _ _ _ _ st hQ => wpAny_pyIter_listiter st.1.1 hQ
end
end PySem
namespace Pu
open PySem PySem.Spec PyProof.Rows L2
section
variable {X : Cx} {a : Addr} {oe : Obj}
theorem cr_anyH (hp : (a, oe) ∈ X.pn) (hh : X.A.handled = some (.ref a)) (hf : ∃ vs : Array Value, oe.data = .fields vs ∧ vs[2]? = some .none) : CallR X (.builtin "any") (rAny X.K) := by
  intro pins s σ H vs us Q I r h
  obtain ⟨l, bs, rfl, hs, q⟩ := h
  obtain ⟨its, rv, hl, _⟩ := I.list hs
  rw [Vals.ref1 r]
  have hb := rv.bls
  obtain ⟨hget, _⟩ := I.pin (a, oe) (List.mem_append_left _ hp)
  obtain ⟨vs, hd, h2⟩ := hf
  have hax : a ≠ s.heap.objs.size := Nat.ne_of_lt (Heap.lt_size hget)
  refine call_any_walk (iter_any hl.isList fun s₂ e2 st hne => ?_)
  subst e2
  refine ⟨_, _, _, _, _, _, _, rfl, walks_list_hotP (A := X.A.in1) (x1 := a) hh _ l hne hax its.toArray, ⟨st, oe, vs, Heap.get?_push_of_some _ hget, hd, h2⟩, truth_bools hb, fun h' tk hk => ?_⟩
  refine ⟨.bl _, H, I.kept fun b o eo => hk b o (fun hmem => ?_) (Heap.get?_push_of_some _ eo), ?_, q⟩
  · rcases List.mem_cons.mp hmem with e1 | hmem
    · exact absurd (e1 ▸ Heap.lt_size eo) (Nat.lt_irrefl _)
    · cases hmem
  · show Value.bool _ = Value.bool _
    rw [← L2.any_range, hb, List.size_toArray, List.length_map]
end
noncomputable def tHE2 (i : Nat) (a : Addr) (j : Nat) (bs : List Bool) (v : Bool) : TE := fun σ H Q => σ[i]? = some (some (.ref a)) ∧ (∃ q, σ[j]? = some (some (.ref q)) ∧ H q = some (.lst (bs.map V.bl))) ∧ ∀ H', (∀ b o, H b = some o → H' b = some o) → Q (.bl v) H'
noncomputable abbrev HE2 (X : Cx) (i : Nat) (a : Addr) (j : Nat) (bs : List Bool) (ex : Expr) (v : Bool) : Prop := PE X ex (tHE2 i a j bs v)
/-- truths of tests, one behind the other -/
noncomputable def LHE (X : Cx) (i : Nat) (a : Addr) (es : List Expr) (bs : List Bool) : Prop := PA X es (fun σ H Q => σ[i]? = some (some (.ref a)) ∧ ∀ H', (∀ b o, H b = some o → H' b = some o) → Q (bs.map V.bl) H')
section
variable {cl : Str → Addr} {X : Cx} {i j n : Nat} {a : Addr} {oe : Obj} {c x y : Str} {q p1 p2 pos : Pos} {b b1 b2 v : Bool} {bs cs : List Bool} {e : Expr} {es : List Expr} {rest : List Stmt}
theorem lhe_nil : LHE X i a [] [] := pa_nil.imp fun σ H Q ⟨_, q⟩ => q H fun _ _ z => z
theorem lhe_cons (h : HE X i a e b) (t : LHE X i a es bs) (hs : starEach (e :: es) X.env = (false, eval e X.env) :: starEach es X.env := by rfl) : LHE X i a (e :: es) (b :: bs) :=
  (pa_cons h t hs).imp fun σ H Q ⟨hσ, q⟩ => ⟨hσ, fun H1 k1 => ⟨hσ, fun H2 k2 => q H2 fun b o z => k2 b o (k1 b o z)⟩⟩
theorem he2_of (h : HE X i a e v) : HE2 X i a j bs e v := h.imp fun σ H Q ⟨hσ, _, q⟩ => ⟨hσ, q⟩
theorem he2_and {f : Expr} {fs : List Expr} (ha : HE2 X i a j bs e b1) (hb : HE2 X i a j bs (.BoolOp .And (f :: fs) pos) b2) (hv : (b1 && b2) = v := by rfl) : HE2 X i a j bs (.BoolOp .And (e :: f :: fs) pos) v := by
  subst hv
  exact (pe_and ha hb).imp fun σ H Q ⟨hσ, hl, q⟩ => ⟨hσ, hl, fun H1 k1 => ⟨b1, rfl, by
    cases b1 with
    | false => exact q H1 k1
    | true =>
      obtain ⟨l, h1, h2⟩ := hl
      exact ⟨hσ, ⟨l, h1, k1 _ _ h2⟩, fun H2 k2 => q H2 fun b o z => k2 b o (k1 b o z)⟩⟩⟩
theorem he2_one {op} (h : HE2 X i a j bs e b) : HE2 X i a j bs (.BoolOp op [e] pos) b := pe_one h
theorem he2_not (h : HE2 X i a j bs e b) (hv : (!b) = v := by rfl) : HE2 X i a j bs (.UnaryOp .Not e pos) v := by
  subst hv
  exact (pe_not h).imp fun σ H Q ⟨hσ, hl, q⟩ => ⟨hσ, hl, fun H1 k1 => ⟨b, rfl, q H1 k1⟩⟩
theorem he2_any (hz : L2N.Zn (.ref (cl c)) none oe) (hf : ∃ vs, oe.data = .fields vs) (hp : (a, oe) ∈ X.pn) (hh : X.A.handled = some (.ref a)) (hgA : Gl X "any") (hmA : X.mg "any" = none) (he : PE X (.Name x p1) (tVar j)) (hv : bs.any id = v := by rfl)
    (h0 : starEach [.Name x p1] X.env = (false, eval (.Name x p1) X.env) :: starEach [] X.env := by rfl) (hpl : (backTo pos (starEach [] X.env)).any (·.1) = false := by rfl) : HE2 X i a j bs (.Call (.Name "any" q) [.Name x p1] [] pos) v := by
  subst hv
  obtain ⟨vs, hd⟩ := hf
  exact (pe_callB (cr_anyH hp hh ⟨vs, hd, hz.2.2 vs hd⟩) hgA hmA (by decide +kernel) (pa_cons he pa_nil h0) (by decide) (by decide) h0 hpl).imp fun σ H Q ⟨hσ, ⟨l, h1, h2⟩, q⟩ => ⟨.ref l, h1, l, bs, rfl, SqL.of h2, q H fun _ _ z => z⟩
noncomputable def tHL (i : Nat) (a : Addr) (j : Nat) (bs : List Bool) (v : Bool) : TS := fun D σ H => σ[i]? = some (some (.ref a)) ∧ ∃ q, σ[j]? = some (some (.ref q)) ∧ H q = some (.lst (bs.map V.bl)) ∧ ∀ H', (∀ b o, b ≠ q → H b = some o → H' b = some o) → D.rt (.bl v) H'
noncomputable abbrev HL (X : Cx) (i : Nat) (a : Addr) (j : Nat) (bs : List Bool) (st : List Stmt) (v : Bool) : Prop := PSs X st (tHL i a j bs v)
theorem hl_ret (h : HE2 X i a j bs e v) : HL X i a j bs [.Return (some e) pos] v := pss_one ((ps_ret h).imp fun D σ H ⟨hσ, l, h1, h2, q⟩ => ⟨hσ, ⟨l, h1, h2⟩, fun H' k => q H' fun b o _ z => k b o z⟩)
theorem hl_cat {x : Str} {p3 p4 : Pos} (hN : X.N.Nodup) (hi : X.N[j]? = some x) (hx : Loc X.env.scope x) (hij : i ≠ j) (hv : PE X (.Name x p1) (tVar j)) (h : LHE X i a es cs) (t : HL X i a j (bs ++ cs) rest v) (hl : (bs ++ cs).length < 100 := by decide)
    (hs : swapsWith (.BinOp (.Name x p1) .Add (.List es p2) p3) (some (.Name x p4)) pos.line X.env = pure false := by rfl) (hf : X.fn x = true ∨ X.env.scope.names.lookup x = some .local := by first | exact .inl rfl | exact .inr rfl | assumption) :
    HL X i a j bs (.Assign [.Name x p4] (.BinOp (.Name x p1) .Add (.List es p2) p3) pos :: rest) v :=
  (pss_cons (ps_set hN hi hx (pe_op op_cat hv (pe_lst h)) hs hf) t).imp fun D σ H ⟨hσ, l, h1, h2, q⟩ => ⟨.ref l, h1, hσ, fun H1 k1 => ⟨Nat.le_of_lt (sz (by rw [List.length_map]; rw [List.length_append] at hl; omega)), fun p hp => by
    have hlp : l ≠ p := ne_of_none (k1 _ _ h2) hp
    refine ⟨l, p, bs.map V.bl, cs.map V.bl, rfl, rfl, by rw [upd_ne hlp]; exact k1 _ _ h2, upd_same, Nat.le_of_lt (sz (by rw [List.length_map, List.length_map]; rw [List.length_append] at hl; omega)), fun p5 hp5 => ?_⟩
    have hjl : j < σ.length := (List.getElem?_eq_some_iff.mp h1).1
    refine ⟨by show (σ.set j _)[i]? = _; rw [List.getElem?_set_ne (Ne.symm hij)]; exact hσ, p5, by show (σ.set j _)[j]? = _; rw [List.getElem?_set_self hjl], by rw [upd_same, List.map_append], fun H' k => q H' fun b o hb z => ?_⟩
    have z1 := k1 b o z
    have bp : b ≠ p := ne_of_none z1 hp
    have z2 : upd H1 p (.lst (cs.map V.bl)) b = some o := by rw [upd_ne bp]; exact z1
    have bp5 : b ≠ p5 := ne_of_none z2 hp5
    exact k b o bp5 (by rw [upd_ne bp5]; exact z2)⟩⟩
theorem hl_app {x : Str} {apos : Pos} (hv : PE X (.Name x p1) (tVar j)) (h : HE X i a e b) (t : HL X i a j (bs ++ [b]) rest v) (hl : bs.length < 100 := by decide)
    (h0 : starEach [e] X.env = (false, eval e X.env) :: starEach [] X.env := by rfl) (hbase : attributeBase (.Name x p1) "append" X.env (eval (.Name x p1) X.env) = eval (.Name x p1) X.env := by rfl)
    (hfew : ((backTo q (starEach [e] X.env)).all (fun x => !x.1) && (backToKw q (keywordEach [] X.env)).all (fun x => x.1.isSome)
      && decide ([e].length + ([] : List Keyword).length + (if ([] : List Keyword).isEmpty then 0 else 1) < 30)) = true := by rfl)
    (hline : (apos.endLine == q.line) = true := by rfl) (hplain : (backTo q (starEach [] X.env)).any (·.1) = false := by rfl)
    (hs : swapsWith (.Call (.Attribute (.Name x p1) "append" apos) [e] [] q) none pos.line X.env = pure false := by rfl) :
    HL X i a j bs (.Expr (.Call (.Attribute (.Name x p1) "append" apos) [e] [] q) pos :: rest) v :=
  (pss_cons (ps_expr (pe_bm PySem.F.plainAttrs_list PySem.F.slot_list_append PySem.F.type_list_append mt_append hv (pa_cons h pa_nil h0) hbase hfew hline h0 hplain) hs) t).imp fun D σ H ⟨hσ, l, h1, h2, q⟩ =>
    ⟨.ref l, h1, .inl ⟨rfl, _, .of h2⟩, hσ, fun H1 k1 => ⟨l, bs.map V.bl, .bl b, rfl, rfl, k1 _ _ h2, sz (by rw [List.length_map]; omega), hσ, l, h1, by rw [upd_same, List.map_append]; rfl, fun H' k => q H' fun c o hc z => k c o hc (by rw [upd_ne hc]; exact k1 c o z)⟩⟩
/-- the first list; n: how many slots there are -/
theorem hb_lst {x : Str} {p4 : Pos} (hN : X.N.Nodup) (hi : X.N[j]? = some x) (hx : Loc X.env.scope x) (hij : i ≠ j) (h : LHE X i a es bs) (t : HL X i a j bs rest v) (hl : bs.length < 100 := by decide)
    (hs : swapsWith (.List es p2) (some (.Name x p4)) pos.line X.env = pure false := by rfl) (hf : X.fn x = true ∨ X.env.scope.names.lookup x = some .local := by first | exact .inl rfl | exact .inr rfl | assumption) :
    HB X i a (.Assign [.Name x p4] (.List es p2) pos :: rest) v :=
  (pss_cons (ps_set hN hi hx (pe_lst h) hs hf) t).imp fun D σ H ⟨hσ, hσl, q⟩ => ⟨hσ, fun H1 k1 => ⟨Nat.le_of_lt (sz (by rw [List.length_map]; omega)), fun p hp => by
    have hjl : j < σ.length := by rw [hσl]; exact (List.getElem?_eq_some_iff.mp hi).1
    refine ⟨by show (σ.set j _)[i]? = _; rw [List.getElem?_set_ne (Ne.symm hij)]; exact hσ, p, by show (σ.set j _)[j]? = _; rw [List.getElem?_set_self hjl], upd_same, fun H' k => q H' fun b o z => ?_⟩
    have z1 := k1 b o z
    have bp : b ≠ p := ne_of_none z1 hp
    exact k b o bp (by rw [upd_ne bp]; exact z1)⟩⟩
end
end Pu
set_option Elab.async false
set_option linter.all false
set_option maxRecDepth 100000
namespace Pu
open PySem PySem.Spec PyProof.Rows L2
section
variable {cl : Str → Addr} {X : Cx}
theorem op_mulS1 : OpR X (binaryOp .Mult) (fun x y H Q => ∃ (a : Str) (b : Bool), x = .str a ∧ y = .int (if b = true then 1 else 0) ∧ Q (.str (if b = true then a else Str.empty)) H) := by
  intro pins s σ H x y v u Q I rx ry h
  obtain ⟨a, b, rfl, rfl, q⟩ := h
  obtain ⟨t, rfl⟩ := rx
  obtain ⟨t2, rfl⟩ := ry
  cases b with
  | false => exact P.mul_str_none (by decide) (by decide) ⟨.str Str.empty, H, I.tok _, ⟨_, rfl⟩, q⟩
  | true => exact P.mul_str (by decide) (fun _ h => absurd h (by simp)) (fun _ h => absurd h (by simp)) (by
      rw [if_neg (by decide), if_pos (by simp)]
      exact ⟨.str a, H, I, ⟨_, rfl⟩, q⟩)
theorem qh_retS {i : Nat} {c : Str} {m z : Str} {j} {ex : Expr} {p2 p3 p4 p5 pos : Pos} {v : Bool} (hgI : Gl X "int") (hmI : X.mg "int" = none) (h : ∀ (a : Addr) (oe : Obj) (pn : List (Addr × Obj)), L2N.Zn (.ref (cl c)) none oe → (∃ vs, oe.data = .fields vs) → HE (X.suite a ((a, oe) :: pn)) i a ex v) (hv : (if v = true then m else Str.empty) = z := by rfl)
    (h0 : ∀ (a : Addr) (oe : Obj) (pn : List (Addr × Obj)), starEach [ex] (X.suite a ((a, oe) :: pn)).env = (false, eval ex (X.suite a ((a, oe) :: pn)).env) :: starEach [] (X.suite a ((a, oe) :: pn)).env := by intro _ _ _; rfl) (hpl : ∀ (a : Addr) (oe : Obj) (pn : List (Addr × Obj)), (backTo p4 (starEach [] (X.suite a ((a, oe) :: pn)).env)).any (·.1) = false := by intro _ _ _; rfl) :
    QH cl X i c [.Return (some (.BinOp (.Constant (.str m) j p2) .Mult (.Call (.Name "int" p3) [ex] [] p4) p5)) pos] (sRet (eC (.str z))) := fun a oe pn hz hf => by
  subst hv
  exact (pss_one (ps_ret (pe_op op_mulS1 pe_str (pe_callTy (X := X.suite a ((a, oe) :: pn)) call_int1 hgI hmI (by decide +kernel) (pa_cons (h a oe pn hz hf) pa_nil (h0 a oe pn)) (by decide) (by decide) (h0 a oe pn) (hpl a oe pn))))).imp fun D σ H ⟨am, e, S, rs, re, hσ, p⟩ => ⟨hσ, fun H' k => .inr ⟨v, rfl, m, v, rfl, rfl, by
    obtain ⟨g, rs'⟩ := rs.wide k
    exact p am (.str _) H' g rs' (.str _)⟩⟩
end
end Pu
set_option Elab.async false
set_option linter.all false
set_option maxRecDepth 100000
namespace Pu
open PySem PySem.Spec PyProof.Rows L2
/-- what x[::-1] is, by values -/
noncomputable def SlB (X : Cx) (r : V → Hp → VK → Prop) : Prop :=
  ∀ (pins : List (Addr × Obj)) (s : Shared) (σ : L2.St) (H : Hp) (x : V) (v vk : Value) (sl : Addr) (Q : VK), Inv X pins σ H s → RelV x v → s.heap.IsSliceOf sl .none .none vk → IsPart vk (some (-1)) → r x H Q →
    ∃ T id, typeLookup (.type T) "__getitem__" = pure (some (.builtin id)) ∧ s.TypeIs v T ∧ wpAny (model X.prog X.w) X.A (getItem v (.ref sl)) (EP X pins σ Q) X.xe s
section
variable {X : Cx}
theorem SlB.or {r r' : V → Hp → VK → Prop} (h : SlB X r) (h' : SlB X r') : SlB X (fun x H Q => r x H Q ∨ r' x H Q) := by
  intro pins s σ H x v vk sl Q I rx hs pk q
  rcases q with q | q
  · exact h pins s σ H x v vk sl Q I rx hs pk q
  · exact h' pins s σ H x v vk sl Q I rx hs pk q
end
section
variable {cl : Str → Addr} {W : WX} {X : Cx} {a : Expr} {f : Ev D} {pos : Pos}
noncomputable def bkD (d : D) (S : Sto) : Res D := match d with
  | .tup xs => .ok (.tup xs.reverse) S
  | d => match lsOf S d with
    | some xs => .ok (.lst xs.reverse) S
    | none => .bad
@[simp] theorem bkD_tup {xs : List D} {S : Sto} : bkD (.tup xs) S = .ok (.tup xs.reverse) S := id rfl
@[simp] theorem bkD_lst {xs : List D} {S : Sto} : bkD (.lst xs) S = .ok (.lst xs.reverse) S := id rfl
end
end Pu
set_option Elab.async false
set_option linter.all false
set_option maxRecDepth 100000
namespace Pu
open PySem PySem.Spec PyProof.Rows L2
end Pu
set_option Elab.async false
set_option linter.all false
set_option maxRecDepth 100000
namespace Pu
open PySem PySem.Spec PyProof.Rows L2
end Pu
set_option Elab.async false
set_option linter.all false
set_option maxRecDepth 100000
set_option maxHeartbeats 1000000
namespace Pu
open PySem PySem.Spec PyProof.Rows L2
open PySem.Sem (wp)
end Pu
set_option Elab.async false
set_option linter.all false
set_option maxRecDepth 100000
namespace Pu
open PySem PySem.Spec PyProof.Rows L2
section
variable {cl : Str → Addr} {X : Cx} {i : Nat} {a : Addr} {oe : Obj} {c x y : Str} {q p1 p2 pos : Pos} {b b1 b2 v : Bool}
noncomputable def tHT (i : Nat) (a : Addr) (v : Bool) : TT := fun σ H Q => σ[i]? = some (some (.ref a)) ∧ ∀ H', (∀ b o, H b = some o → H' b = some o) → Q v H'
noncomputable abbrev HT (X : Cx) (i : Nat) (a : Addr) (t : Expr) (v : Bool) : Prop := PT X t (tHT i a v)
end
end Pu
set_option Elab.async false
set_option linter.all false
set_option maxRecDepth 100000
set_option maxHeartbeats 1000000
namespace Pu
open PySem PySem.Spec PyProof.Rows L2
end Pu
set_option Elab.async false
set_option linter.all false
set_option maxRecDepth 100000
set_option maxHeartbeats 1000000
namespace Pu
open PySem PySem.Spec PyProof.Rows L2
noncomputable def signs (x : Str) : List D := x.cps.toList.map fun c => .str ⟨#[c]⟩
noncomputable def srcTx (d : D) (S : Sto) : Res Src := match d with
  | .str x => .ok (.tmp (signs x)) S
  | _ => .bad
noncomputable def iTx (f : Ev D) : Ev Src := fun e S => (f e S).bind srcTx
noncomputable def srcRv (ds : List D) (S : Sto) : Res Src := match ds with
  | [.lst xs] => .ok (.tmp xs.reverse) S
  | [.fls xs] => .ok (.tmp xs.reverse) S
  | _ => .bad
noncomputable def iRv (f : Ev D) : Ev Src := fun e S => (eArgs [f] e S).bind srcRv
section
variable {cl : Str → Addr} {W : WX} {X : Cx} {a tgE : Expr} {f : Ev D} {p pos : Pos} {K : PySem.W.Frag}
theorem its_ok {x : Str} {am : AM} {H : Hp} : SrcJ K cl (.tmp (signs x)) am H (Its x) := by
  intro am' H' S' g rs _
  refine ⟨fun i d hd => ?_, fun i hi => by simpa [Its, signs] using hi⟩
  have hd : (signs x)[i]? = some d := hd
  unfold signs at hd
  rw [List.getElem?_map, Option.map_eq_some_iff] at hd
  obtain ⟨c, hc, rfl⟩ := hd
  have hi : i < x.cps.size := by
    have := (List.getElem?_eq_some_iff.mp hc).1
    simpa using this
  refine ⟨hi, fun v H2 hy => ?_⟩
  obtain ⟨rfl, c', hc', rfl⟩ := hy
  have e : c' = c := by
    have h1 : x.cps.toList[i]? = x.cps[i]? := Array.getElem?_toList
    rw [h1, hc'] at hc
    exact Option.some.inj hc
  subst e
  exact ⟨am', .refl, rs, .str _⟩
theorem qi_tx (ha : QE cl W X a f) : QI cl W X tgE a (iTx f) := (pi_str ha).imp fun σ H R ⟨am, e, S, rs, re, p⟩ =>
  ⟨am, e, S, rs, re, (Post.step p).imp fun x H1 ⟨am1, S1, d, _, g1, rs1, rv, p1⟩ => by
    cases rv with
    | str x => exact ⟨x, rfl, p1 am1 _ H1 .refl rs1 its_ok⟩
    | _ => exact p1.elim⟩
end
noncomputable def strsD : List D → Option (List Str)
  | [] => some []
  | .str x :: r => (strsD r).map (x :: ·)
  | _ :: _ => none
noncomputable def JoinFit (a : Str) (ys : List Str) : Prop := (ys.map (·.length)).sum + ys.length * a.length ≤ 16777216
noncomputable instance (a : Str) (ys : List Str) : Decidable (JoinFit a ys) := by unfold JoinFit; infer_instance
noncomputable def joinD (o : D) (ds : List D) (S : Sto) : Res D := match o with
  | .str a => match ds with
    | [d] => match (match d with | .tup xs => some xs | d => lsOf S d).bind strsD with
      | some ys => if JoinFit a ys then .ok (.str (Txt.join a ys)) S else .bad
      | none => .bad
    | _ => .bad
  | _ => .bad
theorem strsD_map : ∀ ys : List Str, strsD (ys.map D.str) = some ys
  | [] => rfl
  | y :: ys => by
    show (strsD (ys.map D.str)).map (y :: ·) = _
    rw [strsD_map ys]
    rfl
section
variable {cl : Str → Addr} {W : WX} {X : Cx} {o a : Expr} {f g : Ev D} {apos cpos : Pos} {K : PySem.W.Frag}
theorem strsD_ok {am : AM} {H : Hp} : ∀ {ds : List D} {vs : List V} {ys : List Str}, VRs K am H ds vs → strsD ds = some ys → vs = ys.map V.str
  | _, _, ys, .nil, e => by cases e; rfl
  | _, _, ys, .cons (d := d) (ds := ds) h t, e => by
    cases h with
    | str x =>
      simp only [strsD] at e
      cases q : strsD ds with
      | none => rw [q] at e; cases e
      | some zs =>
        rw [q] at e
        cases e
        rw [strsD_ok t q]
        rfl
    | _ => cases e
noncomputable def rJoin (X : Cx) : V → List V → Hp → VK → Prop := fun x xs H Q => ∃ a p, ∃ ys : List Str, x = .str a ∧ xs = [.ref p] ∧ (SqL X.K H p (ys.map V.str) ∨ SqT X.K H p (ys.map V.str)) ∧
    (ys.map (·.length)).sum + ys.length * a.length ≤ 16777216 ∧ Q (.str (Txt.join a ys)) H
theorem ok_join : OkM X.K cl "str" (rJoin X) joinD := by
  intro W σ am S H o ds x vs Q rs h1 h2 p
  cases h1 with
  | str s =>
    cases h2 with
    | nil => exact p.elim
    | cons r1 r2 =>
      cases r2 with
      | cons _ _ => exact p.elim
      | nil =>
        rename_i d v
        have fin : ∀ (xs : List D) (us : List V) (l : Addr), v = .ref l → VRs X.K am H xs us → (SqL X.K H l us ∨ SqT X.K H l us) → Post X.K cl W σ (VR X.K) am H (match strsD xs with
            | some ys => if JoinFit s ys then .ok (.str (Txt.join s ys)) S else .bad
            | none => .bad) Q → rJoin X (.str s) [v] H Q := fun xs us l ev hv hs p => by
          subst ev
          cases e : strsD xs with
          | none => rw [e] at p; exact p.elim
          | some ys =>
            rw [e] at p
            simp only at p
            by_cases hf : JoinFit s ys
            · rw [if_pos hf] at p
              have eu := strsD_ok hv e
              subst eu
              exact ⟨s, l, ys, rfl, rfl, hs, hf, p am _ H .refl rs (.str _)⟩
            · rw [if_neg hf] at p
              exact p.elim
        have viaL : ∀ {xs : List D}, lsOf S d = some xs → Post X.K cl W σ (VR X.K) am H (match (some xs).bind strsD with
            | some ys => if JoinFit s ys then .ok (.str (Txt.join s ys)) S else .bad
            | none => .bad) Q → rJoin X (.str s) [v] H Q := fun {xs} q p => by
          obtain ⟨l, us, ev, q1, q2⟩ := lsOf_ok rs r1 q
          exact fin xs us l ev q2 (.inl q1) p
        unfold joinD at p
        simp only at p
        cases d with
        | tup xs =>
          cases r1 with
          | @tup l us _ t1 s1 => exact fin xs us l rfl s1 (.inr t1.seq) p
        | _ =>
          simp only at p
          first
          | (revert p
             generalize q : lsOf S _ = z
             intro p
             cases z with
             | none => exact p.elim
             | some xs => exact viaL q p)
  | _ => exact p.elim
theorem qe_join (ho : QE cl W X o g) (ha : QE cl W X a f) (h0 : starEach [a] X.env = (false, eval a X.env) :: starEach [] X.env := by rfl)
    (hbase : attributeBase o "join" X.env (eval o X.env) = eval o X.env := by rfl)
    (hfew : ((backTo cpos (starEach [a] X.env)).all (fun x => !x.1) && (backToKw cpos (keywordEach [] X.env)).all (fun x => x.1.isSome) && decide (([a] : List Expr).length + ([] : List Keyword).length + (if ([] : List Keyword).isEmpty then 0 else 1) < 30)) = true := by rfl)
    (hline : (apos.endLine == cpos.line) = true := by rfl) (hplain : (backTo cpos (starEach [] X.env)).any (·.1) = false := by rfl) :
    QE cl W X (.Call (.Attribute o "join" apos) [a] [] cpos) (eM "str" joinD g [f]) := qe_bm PySem.F.plainAttrs_str PySem.F.slot_str_join PySem.F.type_str_join mt_join ok_join ho (qa_cons ha qa_nil h0) hbase hfew hline h0 hplain
end
section
variable {dead vs : List Nat} {tg : Tg} {f g : Ev D} {a : Stm} {e : En} {S : Sto} {xs ys : List D} {t : Ev Bool} {x : Str}
@[simp] theorem ap_iTx : iTx f e S = (f e S).bind srcTx := id rfl
@[simp] theorem ap_iRv : iRv f e S = (eArgs [f] e S).bind srcRv := id rfl
@[simp] theorem srcTx_str : srcTx (.str x) S = .ok (.tmp (signs x)) S := id rfl
@[simp] theorem srcRv_lst : srcRv [.lst xs] S = .ok (.tmp xs.reverse) S := id rfl
@[simp] theorem srcRv_fls : srcRv [.fls xs] S = .ok (.tmp xs.reverse) S := id rfl
theorem nLcTx (hf : f e S = .ok (.str x) S) (hl : x.length < 1048576) (q : lcD tg (.tmp (signs x)) t g (wipeE e vs) (signs x) S = .ok ys S) : nLc vs tg (iTx f) t g e S = .ok (.lst ys) S := by
  rw [ap_Lc, ap_iTx, hf, Res.bind_ok, srcTx_str, Res.bind_ok]
  simp only [Src.items_tmp]
  have hz : (signs x).length < 1048576 := by
    unfold signs
    rw [List.length_map]
    exact hl
  rw [if_pos (Nat.le_of_lt (sz hz)), q, Res.bind_ok]
theorem joinD_lst {s : Str} {zs : List Str} (h : JoinFit s zs) : joinD (.str s) [.lst (zs.map D.str)] S = .ok (.str (Txt.join s zs)) S := by
  unfold joinD
  simp only [lsOf_lst, Option.bind_some, strsD_map, h, if_true]
end
end Pu
set_option Elab.async false
set_option linter.all false
set_option maxRecDepth 100000
set_option maxHeartbeats 1000000
namespace L2
open PySem PySem.Spec PyProof.Rows
end L2
namespace Pu
open PySem PySem.Spec PyProof.Rows L2
noncomputable def insOf (S : Sto) (c : Str) : D → Option (List (Str × D))
  | .ref k => match S[k]? with
    | some (.ins c' fs) => if c' = c then some fs else none
    | _ => none
  | _ => none
@[simp] theorem insOf_ref {S : Sto} {k : Nat} {c : Str} {fs : List (Str × D)} (h : S[k]? = some (.ins c fs)) : insOf S c (.ref k) = some fs := by
  simp only [insOf, h, if_true]
/-- one attribute set -/
noncomputable def putFD (f : Str) (v : D) : List (Str × D) → List (Str × D)
  | [] => [(f, v)]
  | (g, x) :: r => if g = f then (g, v) :: r else (g, x) :: putFD f v r
section
variable {K : PySem.W.Frag} {cl : Str → Addr} {am : AM} {H : Hp} {S : Sto} {d : D} {v : V}
theorem VRf.lookup {f : Str} : ∀ {fs : List (Str × D)} {vs : List (Str × V)} {d : D}, VRf K am H fs vs → fs.lookup f = some d → ∃ v, vs.lookup f = some v ∧ VR K am H d v
  | _, _, _, .nil, h => by cases h
  | (g, x) :: fs, (g', y) :: vs, d, .cons ⟨e, r⟩ t, h => by
    have e : g = g' := e
    subst e
    rw [List.lookup_cons] at h ⊢
    by_cases hg : (f == g) = true
    · rw [hg] at h ⊢
      cases h
      exact ⟨y, rfl, r⟩
    · rw [Bool.not_eq_true] at hg
      rw [hg] at h ⊢
      exact VRf.lookup t h
theorem VRf.length : ∀ {fs : List (Str × D)} {vs : List (Str × V)}, VRf K am H fs vs → fs.length = vs.length
  | _, _, .nil => rfl
  | _, _, .cons _ t => by rw [List.length_cons, List.length_cons, VRf.length t]
theorem VRf.put {f : Str} (r : VR K am H d v) : ∀ {fs : List (Str × D)} {vs : List (Str × V)}, VRf K am H fs vs → VRf K am H (putFD f d fs) (putF f v vs)
  | _, _, .nil => .cons ⟨rfl, r⟩ .nil
  | (g, x) :: fs, (g', y) :: vs, .cons ⟨e, r'⟩ t => by
    have e : g = g' := e
    subst e
    show VRf K am H (if g = f then (g, d) :: fs else (g, x) :: putFD f d fs) (if g = f then (g, v) :: vs else (g, y) :: putF f v vs)
    by_cases hg : g = f
    · rw [if_pos hg, if_pos hg]
      exact .cons ⟨rfl, r⟩ t
    · rw [if_neg hg, if_neg hg]
      exact .cons ⟨rfl, r'⟩ (VRf.put r t)
theorem VRf.mono {am' : AM} {H' : Hp} (g : Grow am am' H H') {fs : List (Str × D)} {vs : List (Str × V)} (h : VRf K am H fs vs) : VRf K am' H' fs vs := Paired.mapP h fun p q z => ⟨z.1, z.2.mono g⟩
end
section
variable {cl : Str → Addr} {W : WX} {X : Cx} {o a : Expr} {es : List Expr} {f g h : Ev D} {fs : List (Ev D)} {pos pos' apos p : Pos} {c x m : Str}
structure MethOk (P : Program) (w : World) (K : PySem.W.Frag) (mg : Str → Option Value) (base : Heap) (cl : Str → Addr) (c m : Str) (k : Nat) (ps : List Str) (F : List D → Sto → Res D) : Prop where
  ex : ∃ f fd, FnOk P w K mg base (L2N.CX P w) k f fd ps (SpD K cl ps.length F) ∧ Meth K (cl c) m f ∧ (∀ us : List Value, us.length = ps.length → bindArgs fd ⟨us, []⟩ = pure (ps.zip us))
theorem MethOk.mono {P : Program} {w : World} {K : PySem.W.Frag} {mg : Str → Option Value} {base : Heap} {k j : Nat} {ps : List Str} {F : List D → Sto → Res D} (d : MethOk P w K mg base cl c m k ps F) (h : k ≤ j) : MethOk P w K mg base cl c m j ps F :=
  let ⟨f, fd, a, b⟩ := d.ex
  ⟨f, fd, a.mono h, b⟩
end
end Pu
set_option Elab.async false
set_option linter.all false
set_option maxRecDepth 100000
set_option maxHeartbeats 1000000
namespace L2
open PySem PySem.Spec PyProof.Rows
end L2
namespace Pu
open PySem PySem.Spec PyProof.Rows L2
section
variable {cl : Str → Addr} {W : WX} {X : Cx} {a b c : Expr} {es : List Expr} {f g h : Ev D} {fs : List (Ev D)} {pos p apos cpos mpos : Pos}
noncomputable def ii3D (ds : List D) (S : Sto) : Res D := match ds with
  | [.int i, .int j, .int k] => .ok (.int (minI (minI i j) k)) S
  | _ => .bad
noncomputable def dropD (kvs : List (Key × D)) (k : Key) : List (Key × D) := kvs.filter fun kv => decide (kv.1 ≠ k)
theorem VRk.drop {K : PySem.W.Frag} {am : AM} {H : Hp} (k : Key) : ∀ {ds : List (Key × D)} {vs : List (Key × V)}, VRk K am H ds vs → VRk K am H (dropD ds k) (dropK vs k)
  | _, _, .nil => .nil
  | _, _, .cons (k := k') (ds := ds) (vs := vs) r t => by
    have ih := VRk.drop k t
    unfold dropD dropK at ih ⊢
    rw [List.filter_cons, List.filter_cons]
    by_cases e : k' = k
    · simp only [e, ne_eq, not_true_eq_false, decide_false, Bool.false_eq_true, if_false]
      exact ih
    · simp only [e, ne_eq, not_false_eq_true, decide_true, if_true]
      exact .cons r ih
end
section
variable {f g h : Ev D} {e : En} {S : Sto} {n : Nat} {kvs : List (Key × D)} {i j k : Int} {z : D}
@[simp] theorem ii3_ap : ii3D [.int i, .int j, .int k] S = .ok (.int (minI (minI i j) k)) S := id rfl
end
end Pu
set_option Elab.async false
set_option linter.all false
set_option maxRecDepth 100000
set_option maxHeartbeats 1000000
namespace Pu
open PySem PySem.Spec PyProof.Rows L2
end Pu
set_option Elab.async false
set_option linter.all false
set_option maxRecDepth 100000
set_option maxHeartbeats 1000000
namespace Pu
open PySem PySem.Spec PyProof.Rows L2
noncomputable def strI (ds : List D) (S : Sto) : Res D := match ds with
  | [.int i] => if i.natAbs.log2 < 1920 then .ok (.str (Str.ofString (toString i))) S else .bad
  | _ => .bad
noncomputable def intT (ds : List D) (S : Sto) : Res D := match ds with
  | [.str a] => match PySem.intText? a with
    | some n => if a.length ≤ 640 then .ok (.int n) S else .bad
    | none => .bad
  | _ => .bad
section
variable {cl : Str → Addr} {W : WX} {X : Cx} {a b : Expr} {f g : Ev D} {fs : List (Ev D)} {pos p apos : Pos}
theorem ok_strI : OkN X.K cl (fun xs H Q => ∃ i, xs = [.int i] ∧ i.natAbs.log2 < 1920 ∧ Q (.str (toString i)) H) strI := by
  intro W σ am S H ds vs Q rs h1 pp
  unfold strI at pp
  split at pp
  · rename_i i
    cases h1 with
    | cons r1 h1 =>
      cases r1
      cases h1
      split at pp
      · rename_i hz
        exact ⟨i, rfl, hz, pp am _ H .refl rs (.str _)⟩
      · exact pp.elim
  · exact pp.elim
theorem ok_intT : OkN X.K cl (fun xs H Q => ∃ a n, xs = [.str a] ∧ PySem.intText? a = some n ∧ a.length ≤ 640 ∧ Q (.int n) H) intT := by
  intro W σ am S H ds vs Q rs h1 pp
  unfold intT at pp
  split at pp
  · rename_i x
    cases h1 with
    | cons r1 h1 =>
      cases r1
      cases h1
      split at pp
      · rename_i n hn
        split at pp
        · rename_i hz
          exact ⟨x, n, rfl, hn, hz, pp am _ H .refl rs (.int _)⟩
        · exact pp.elim
      · exact pp.elim
  · exact pp.elim
theorem qe_strI (hg : Gl X "str") (hm : X.mg "str" = none) (ha : QA cl W X [a] (eArgs fs)) (he : starEach [a] X.env = (false, eval a X.env) :: starEach [] X.env := by rfl) (hpl : (backTo pos (starEach [] X.env)).any (·.1) = false := by rfl) : QE cl W X (.Call (.Name "str" p) [a] [] pos) (eCall strI fs) := qe_callT call_str_int ok_strI hg hm (by decide +kernel) ha (by decide) (by decide) he hpl
theorem qe_intT (hg : Gl X "int") (hm : X.mg "int" = none) (ha : QA cl W X [a] (eArgs fs)) (he : starEach [a] X.env = (false, eval a X.env) :: starEach [] X.env := by rfl) (hpl : (backTo pos (starEach [] X.env)).any (·.1) = false := by rfl) : QE cl W X (.Call (.Name "int" p) [a] [] pos) (eCall intT fs) := qe_callT call_int_str ok_intT hg hm (by decide +kernel) ha (by decide) (by decide) he hpl
noncomputable def splOk (a b : Str) : Prop := (b.length == 0) = false ∧ a.length + 2 ≤ sizeLine
noncomputable instance (a b : Str) : Decidable (splOk a b) := by unfold splOk; infer_instance
noncomputable def nSplit (f g : Ev D) : Ev DO := fun e S => (f e S).bind fun d S => match d with
  | .str a => (g e S).bind fun c S => match c with
    | .str b => if splOk a b then .ok (.lst ((Txt.split a b).map D.str)) S else .bad
    | _ => .bad
  | _ => .bad
theorem VRs_strs {K : PySem.W.Frag} {am : AM} {H : Hp} : ∀ ys : List Str, VRs K am H (ys.map D.str) (ys.map V.str)
  | [] => .nil
  | y :: ys => .cons (.str y) (VRs_strs ys)
theorem qn_split (ha : QE cl W X a f) (hb : QE cl W X b g) (hs : starEach [b] X.env = [(false, eval b X.env)] := by rfl) (hbase : attributeBase a "split" X.env (eval a X.env) = eval a X.env := by rfl) (hline : (apos.endLine == pos.line) = true := by rfl) :
    QN cl W X (.Call (.Attribute a "split" apos) [b] [] pos) (nSplit f g) :=
  (pe_split ha hb hs hbase hline).imp fun σ H Q ⟨am, e, S, rs, re, p⟩ =>
    ⟨am, e, S, rs, re, (PostN.step p).imp fun x H1 ⟨am1, S1, d, _, g1, rs1, rv, p1⟩ => by
      cases d with
      | str s =>
        cases rv
        have p1 : PostN X.K cl W σ am H ((g e S1).bind fun c S => match c with
          | .str b => if splOk s b then .ok (.lst ((Txt.split s b).map D.str)) S else .bad
          | _ => .bad) Q := p1
        refine ⟨⟨s, rfl⟩, am1, e, S1, rs1, re.mono g1, ?_⟩
        cases eg : g e S1 with
        | bad => rw [eg] at p1; exact p1.elim
        | exc c S2 =>
          rw [eg] at p1
          exact fun am' H' g2 rs2 => p1 am' H' (g1.trans g2) rs2
        | ok c S2 =>
          rw [eg, Res.bind_ok] at p1
          intro am2 y H2 g2 rs2 rv2
          cases c with
          | str t =>
            cases rv2
            simp only at p1
            split at p1
            · rename_i hz
              exact ⟨s, t, rfl, rfl, hz.1, hz.2, fun q hq => p1.laid (g1.trans g2) rs2 hq ⟨_, upd_same, VRs_strs _⟩⟩
            · exact p1.elim
          | _ => exact p1.elim
      | _ => exact p1.elim⟩
end
end Pu
set_option Elab.async false
set_option linter.all false
set_option maxRecDepth 100000
set_option maxHeartbeats 1000000
namespace L2
open PySem PySem.Spec PyProof.Rows
end L2
namespace Pu
open PySem PySem.Spec PyProof.Rows L2
end Pu
set_option Elab.async false
set_option linter.all false
set_option maxRecDepth 100000
namespace Pu
open PySem PySem.Spec PyProof.Rows L2
end Pu
set_option Elab.async false
set_option linter.all false
set_option maxRecDepth 100000
namespace Pu
open PySem PySem.Spec PyProof.Rows L2
noncomputable def repS (x : Str) (n : Nat) : Str := ⟨(List.replicate n x.cps).foldl (· ++ ·) #[]⟩
theorem fold_size (a : Array Nat) : ∀ (n : Nat) (b : Array Nat), ((List.replicate n a).foldl (· ++ ·) b).size = b.size + n * a.size
  | 0, b => by simp
  | n + 1, b => by
    rw [List.replicate_succ, List.foldl_cons, fold_size a n, Array.size_append, Nat.succ_mul]
    omega
theorem repS_len (x : Str) (n : Nat) : (repS x n).length = n * x.length := by
  show ((List.replicate n x.cps).foldl (· ++ ·) #[]).size = _
  rw [fold_size]
  simp [Str.length]
section
variable {X : Cx}
theorem op_mul_str : OpR X (binaryOp .Mult) (fun x y H Q => ∃ (i : Str) (k : Int), x = .str i ∧ y = .int k ∧ 0 ≤ k ∧ k ≤ 1000 ∧ 0 < i.length ∧ i.length ≤ 1000 ∧ Q (.str (repS i k.toNat)) H) := by
  intro pins s σ H x y v u Q I rx ry h
  obtain ⟨i, k, rfl, rfl, h1, h2, h3, h4, q⟩ := h
  obtain ⟨t, rfl⟩ := rx
  obtain ⟨t', rfl⟩ := ry
  by_cases k0 : k = 0
  · subst k0
    have e : repS i (0 : Int).toNat = Str.empty := rfl
    rw [e] at q
    exact P.mul_str_none (by decide) (by decide) ⟨.str Str.empty, H, I.tok _, ⟨_, rfl⟩, q⟩
  by_cases k1 : k = 1
  · subst k1
    have e : repS i (1 : Int).toNat = i := by
      show (⟨#[] ++ i.cps⟩ : Str) = i
      simp
    rw [e] at q
    exact P.mul_str (by decide) (fun _ h => absurd h (by simp)) (fun _ h => absurd h (by simp)) (by
      rw [if_neg (by decide), if_pos (by simp)]
      exact ⟨.str i, H, I, ⟨_, rfl⟩, q⟩)
  have n1 : ¬ k < 1 := by omega
  have n2 : (k == 1 || i.length == 0) = false := by
    rw [Bool.or_eq_false_iff]
    exact ⟨beq_eq_false_iff_ne.mpr (by omega), beq_eq_false_iff_ne.mpr (by omega)⟩
  refine PySem.P.mul_str (by rw [decide_eq_false (by omega), decide_eq_false (by omega)]; rfl) (fun _ _ => ?_) (fun _ _ => ?_) ?_
  · have : (1000 : Int) ≤ (2 ^ 63 - 1) / k := by
      rw [Int.le_ediv_iff_mul_le (by omega)]
      omega
    omega
  · have : i.length * k.toNat ≤ 1000 * 1000 := Nat.mul_le_mul h4 (by omega)
    show decide (i.length * k.toNat > sizeLine) = false
    exact decide_eq_false (Nat.not_lt.mpr (Nat.le_of_lt (sz (by omega))))
  · rw [if_neg n1, if_neg (by rw [n2]; exact Bool.false_ne_true)]
    have hl : k.toNat * i.length ≤ 1000 * 1000 := Nat.mul_le_mul (by omega) h4
    exact ⟨by rw [show (⟨(List.replicate k.toNat i.cps).foldl (· ++ ·) #[]⟩ : Str) = repS i k.toNat from rfl, repS_len]; exact Nat.le_of_lt (sz (by omega)), ⟨.str (repS i k.toNat), H, I.tok _, ⟨_, rfl⟩, q⟩⟩
end
noncomputable def mulSD (d e : D) (S : Sto) : Res D := match d, e with
  | .str x, .int k => if 0 ≤ k ∧ k ≤ 1000 ∧ 0 < x.length ∧ x.length ≤ 1000 then .ok (.str (repS x k.toNat)) S else .bad
  | _, _ => .bad
section
variable {cl : Str → Addr} {W : WX} {X : Cx} {a b : Expr} {f g : Ev D} {pos : Pos}
theorem ok_mulS : Ok2 X.K cl (fun x y H Q => ∃ (i : Str) (k : Int), x = .str i ∧ y = .int k ∧ 0 ≤ k ∧ k ≤ 1000 ∧ 0 < i.length ∧ i.length ≤ 1000 ∧ Q (.str (repS i k.toNat)) H) mulSD := by
  intro W σ am S H d e v u Q rs h1 h2 p
  cases h2 with
  | int k =>
    cases h1 with
    | str x =>
      simp only [mulSD] at p
      by_cases hz : 0 ≤ k ∧ k ≤ 1000 ∧ 0 < x.length ∧ x.length ≤ 1000
      · rw [if_pos hz] at p
        exact ⟨x, k, rfl, rfl, hz.1, hz.2.1, hz.2.2.1, hz.2.2.2, p am _ H .refl rs (.str _)⟩
      · rw [if_neg hz] at p
        exact p.elim
    | _ => exact p.elim
  | _ => cases h1 <;> exact p.elim
theorem qe_mulS (ha : QE cl W X a f) (hb : QE cl W X b g) : QE cl W X (.BinOp a .Mult b pos) (e2 mulSD f g) := qe_bin op_mul_str ok_mulS ha hb
end
end Pu
set_option Elab.async false
set_option linter.all false
set_option maxRecDepth 100000
set_option maxHeartbeats 2000000
namespace Pu
open PySem PySem.Spec PyProof.Rows L2 HotX
open PySem.Calls
end Pu
set_option Elab.async false
set_option linter.all false
set_option maxRecDepth 100000
set_option maxHeartbeats 1000000
namespace Pu
open PySem PySem.Spec PyProof.Rows L2
noncomputable def tK (i : Nat) (a : Addr) (j : Nat) (bs : List Bool) (z : Str) : TS := fun D σ H => σ[i]? = some (some (.ref a)) ∧ (∃ q, σ[j]? = some (some (.ref q)) ∧ H q = some (.lst (bs.map V.bl))) ∧ ∀ H', (∀ b o, H b = some o → H' b = some o) → D.rt (.str z) H'
end Pu
set_option Elab.async false
set_option linter.all false
set_option maxRecDepth 100000
set_option maxHeartbeats 1000000
namespace Pu
open PySem PySem.Spec PyProof.Rows L2
end Pu
set_option Elab.async false
set_option linter.all false
set_option maxRecDepth 100000
set_option maxHeartbeats 2000000
namespace PySem
namespace PXN
section
variable {M : Model} {A : Around} {E : Value → Shared → Prop} {s : Shared} {Z : Obj → Prop} {base : Heap} {env : Env} {outer : List Env} {L C e : Addr}
/-- noted by the frame, the flight at another place -/
theorem looks_overZ {Q : Unit → Shared → Prop} (hZ : Steady1 Z) (hfr : A.frames = some (env :: outer)) (hf : env.frame = some L) (hne : C ≠ L) (hfl : HandSPX.HeldZ base (env :: outer) e Z C s.heap)
    (hQ : ∀ h', HandSPX.HeldZ base (env :: outer) e Z L h' → s.heap.UpToSlots h' → Q () { s with heap := h' }) : wpAny M A (noteFrame (.ref e) env) Q E s := by
  obtain ⟨hkb, hen, hl, oe, vs, T, oT, ts, he, hz, hd, h1, hnT, hTe, hT, hdT, h3⟩ := hfl
  unfold noteFrame
  simp only [hf]
  refine wpAny_bind (wpAny_field he hd h1 ?_)
  rw [if_pos (show (Value.ref T != Value.none) = true from by simp)]
  refine wpAny_bind (wpAny_field hT hdT h3 ?_)
  rw [if_neg (show ¬ ((rawInt C == rawInt L) = true) from by simp [rawInt]; exact fun z => hne (Int.ofNat.inj z))]
  refine wpAny_bind (wpAny_setField hT hdT (Array.getElem?_eq_some_iff.mp h3).1 ?_)
  have other : ∀ b, b ≠ T → (s.heap.update T (Obj.mapFields (·.setIfInBounds 3 Value.none))).get? b = s.heap.get? b := fun b hb => Heap.get?_update_other _ _ (Ne.symm hb)
  have noRecord : ∀ b o, s.heap.get? b = some o → (∀ vs, o.data ≠ .fields vs) → b ≠ T := fun b o hb hnf q => by
    rw [q, hT] at hb; injection hb with hb; subst hb; exact hnf ts hdT
  refine wpAny_entryZ hZ hfr (hl.of_keeps fun b o hb hnf => ⟨o, (other b (noRecord b o hb hnf)).trans hb, rfl⟩) hf ((other e (Ne.symm hTe)).trans he)
    (fun b o hbo => (other b fun q => by rw [q, hnT] at hbo; cases hbo).trans (hkb b o hbo)) hen hd (Array.getElem?_eq_some_iff.mp h1).1 hz fun h' hN => ?_
  obtain ⟨x1, x2, x3, x4⟩ := hN
  exact hQ h' ⟨x1, hen, x2, x3⟩ fun b o hb hnf => x4 b o ((other b (noRecord b o hb hnf)).trans hb) hnf
end
end PXN
end PySem
namespace Pu
open PySem PySem.Spec PyProof.Rows L2
section
variable {X : Cx} {W : WX} {pins : List (Addr × Obj)} {σ : L2.St}
/-- what the block's frame does with an exception of its element -/
theorem takes_blk {H3 : Hp} {s3 : Shared} {fp : List Addr} {scope : Scope} {ce : Env} {R : Value → Shared → Prop} (hs : X.stack = X.env :: X.outer) (hf : X.env.frame = some X.env.locals) (tk : L2N.Takes X W) (I3 : Inv X pins σ H3 s3)
    (f3 : ∀ b ∈ fp, FpOk X pins H3 b ∧ b < s3.heap.objs.size) (cL : ce.locals = s3.heap.objs.size) (cF : ce.frame = X.env.frame) (hR : ∀ x s', CompFails (model X.prog X.w) X.A X.xe ce x s' → R x s') :
    L2N.Takes ((X.blk s3 H3 scope ce fp).tr [] (notedBy (model X.prog X.w) X.A ce R)) (fun cls d _ H => W cls d σ H) := by
  rintro u s' ⟨a, B, sI, pins', σ', H', cls, d, rfl, I, nb, up, sky, na, os, ag, w⟩
  show wpAny (model X.prog X.w) X.A (noteFrame (.ref a) ce) (fun _ s2 => R (.ref a) s2) R s'
  rw [noteFrame_env _ cF]
  have hfr : X.A.frames = some (X.env :: X.outer) := by rw [I3.ok.frames, hs]
  have sky' : Sky B (X.env :: X.outer) a (L2N.Zn cls d) ce.locals s'.heap := by rw [← hs]; exact sky
  have nb' : ∀ b o, sI.heap.get? b = some o → b ∉ frs X.stack → B.get? b = some o := nb
  have nC : H' ce.locals = none := I.free
  have I7 : Inv X pins σ H' sI := I3.call' (ch := fp) I.os I.base I.hok I.bare fun b hb => ⟨(f3 b hb).1.2.2.2.1, (f3 b hb).1.2.1, (f3 b hb).1.2.2.2.2.1, (f3 b hb).1.2.2.2.2.2⟩
  have fpC : FpOk X pins H' ce.locals := I3.fpOk (Nat.le_of_eq cL.symm) nC
  have hCL : ce.locals ≠ X.env.locals := fpC.2.1
  have fin : ∀ h1, HandSPX.HeldZ B (X.env :: X.outer) a (L2N.Zn cls d) X.env.locals h1 → s'.heap.UpToSlots h1 → R (.ref a) { s' with heap := h1 } := fun h1 hh upp => by
    refine hR _ _ ?_
    obtain ⟨m, hn, _⟩ := I.loc
    have hn : sI.heap.Ns ce.locals m := hn
    have up1 : sI.heap.UpToSlots h1 := up.trans upp
    have hn1 : h1.Ns ce.locals m := hn.upToSlots up1
    refine ⟨m, hn1, fun h2 m2 hn2 sb => ?_⟩
    obtain ⟨hkb, hen, hl, oe, vs, T, oT, ts, he, hz, hd, hv1, hnT, hTe, hT, hdT, hv3⟩ := hh
    have sb2 : ∀ b, b ≠ ce.locals → h2.get? b = h1.get? b := sb.2
    obtain ⟨oL, es, ep, hoL, hdL, _⟩ := id hn1
    have aC : a ≠ ce.locals := fun z => by
      rw [z, hoL] at he
      cases he
      rw [hdL] at hd
      cases hd
    have TC : T ≠ ce.locals := fun z => by
      rw [z, hoL] at hT
      cases hT
      rw [hdL] at hdT
      cases hdT
    obtain ⟨B2, b1, b2⟩ := L2.restrict B fun b => decide (b ≠ ce.locals)
    obtain ⟨G, g1, g2⟩ := L2.restrict sI.heap fun b => decide (b ≠ ce.locals)
    have inB : ∀ b o, B2.get? b = some o → b ≠ ce.locals ∧ B.get? b = some o := fun b o e => by
      by_cases z : b = ce.locals
      · rw [b2 b (by simp [z])] at e; cases e
      · rw [b1 b (by simp [z])] at e; exact ⟨z, e⟩
    have inG : ∀ b o, G.get? b = some o → b ≠ ce.locals ∧ sI.heap.get? b = some o := fun b o e => by
      by_cases z : b = ce.locals
      · rw [g2 b (by simp [z])] at e; cases e
      · rw [g1 b (by simp [z])] at e; exact ⟨z, e⟩
    have noB : ∀ b, B.get? b = none → B2.get? b = none := fun b e => by
      cases q : B2.get? b with
      | none => rfl
      | some o => rw [(inB b o q).2] at e; cases e
    have k2 : B2.StaysIn h2 := fun b o e => (sb2 b (inB b o e).1).trans (hkb b o (inB b o e).2)
    have l2 : h2.FunFrames B2 (X.env :: X.outer) := L2.funFrames_none (Heap.FunFrames.sameBut sb hn2 hl) fun L hL => noB L ((hl.mem hL).1)
    have t2 : HandSPX.TracedZ h2 B2 a (L2N.Zn cls d) (rawInt X.env.locals) := ⟨oe, vs, T, oT, ts, (sb2 a aC).trans he, hz, hd, hv1, noB T hnT, hTe, (sb2 T TC).trans hT, hdT, hv3⟩
    unfold PySem.passOn
    refine wpAny_bind (wpAny_field ((sb2 a aC).trans he) hd hv1 ?_)
    rw [if_neg (show ¬ ((Value.ref T == Value.none) = true) from by simp), cF, hf]
    refine wpAny_bind (HandSPX.setFlight_anyZ k2 l2 t2 fun h3 k3 l3 t3 up3 => ?_)
    refine wpAny_throw ?_
    refine tk _ _ ⟨a, B2, { sI with heap := G, toks := sI.toks }, pins, σ, H', cls, d, rfl, I7.turned (t' := sI.toks) (fun b o hb e => (g1 b (by simp [hb])).trans e) fpC.1 fpC.2.1 fpC.2.2.2.1 fpC.2.2.2.2.1 fpC.2.2.2.2.2, fun b o e hb => ?_, fun b o e hnf => ?_, ?_, na, os, ag, w⟩
    · obtain ⟨z, e⟩ := inG b o e
      exact (b1 b (by simp [z])).trans (nb' b o e hb)
    · obtain ⟨z, e⟩ := inG b o e
      obtain ⟨sl, e1⟩ := up1 b o e hnf
      exact up3 b _ ((sb2 b z).trans e1) hnf |>.imp fun sl2 e2 => e2
    · rw [hs]
      exact .inr (.inr ⟨k3, noB a hen, l3, t3⟩)
  rcases sky' with ⟨hB, hn, hl, oe, vs, he, hz, hd, h1⟩ | fl | hh
  · exact PXN.look_newZ L2N.Zn.steady hfr hl hf he hB hn hd h1 hz fin
  · exact PXN.looks_onZ L2N.Zn.steady hfr hf fl fin
  · exact PXN.looks_overZ L2N.Zn.steady hfr hf hCL hh fin
end
section
variable {X : Cx} {W : WX}
/-- the block of a comprehension, what leaves it told -/
noncomputable abbrev _root_.L2.Cx.blkE (X : Cx) (s : Shared) (H : Hp) (scope : Scope) (cenv : Env) (fp : List Addr) (xe : Value → Shared → Prop) : Cx := (X.blk s H scope cenv fp).tr [] xe
/-- an expression's rule, by what may leave it -/
noncomputable abbrev TEX := WX → TE
noncomputable def atS (W : WX) (σ : L2.St) : WX := fun cls d _ H => W cls d σ H
noncomputable def tLcX (wi : TI) (g : TG) (tt : TT) (te : TEX) (vs : List Nat) (W : WX) : TE := fun σ H Q => tLc wi g tt (te (atS W σ)) vs σ H Q
theorem lc_coreX {pins : List (Addr × Obj)} {s : Shared} {σ : L2.St} {H : Hp} {Q : VK} {elt tg iter : Expr} {ifs : List Expr} {scope : Scope} {own : List (Str × Nat)} {pos pos' : Pos} {wi : TI} {g : TG} {tt : TT} {te : TEX} {use : Option (Value → Sem Unit)} {Qf : Value → Shared → Prop}
    (hst : X.stack = X.env :: X.outer) (hf : X.env.frame = some X.env.locals) (tk : L2N.Takes X W)
    (hc : X.calm = true) (hN : X.N.Nodup) (I : Inv X pins σ H s) (hi : PI X tg iter wi) (ok : BlkOk X.N X.env.scope scope own)
    (hg : ∀ (s : Shared) (H : Hp) (C : Addr) (cl : List (Str × Addr)) (fp : List Addr) (xe : Value → Shared → Prop), PG (X.blkE s H scope (compEnvC scope cl C X.env) fp xe) tg g)
    (ht : ∀ (s : Shared) (H : Hp) (C : Addr) (cl : List (Str × Addr)) (fp : List Addr) (xe : Value → Shared → Prop), PTs (X.blkE s H scope (compEnvC scope cl C X.env) fp xe) ifs tt)
    (he : ∀ (s : Shared) (H : Hp) (C : Addr) (cl : List (Str × Addr)) (fp : List Addr) (xe : Value → Shared → Prop) (W' : WX), L2N.Takes (X.blkE s H scope (compEnvC scope cl C X.env) fp xe) W' → PE (X.blkE s H scope (compEnvC scope cl C X.env) fp xe) elt (te W'))
    (hs : ∀ x, foldedSetIterable iter X.env x = pure x)
    (h : tLcX wi g tt te (own.map (·.2)) W σ H Q)
    (hRR : ∀ D (ce : Env) s' m H', Inv X pins σ H' s' → Q (.ref D) H' → s'.heap.Ns ce.locals m → FpOk X pins H' ce.locals → compEnds (model X.prog X.w) X.A X.xe use Qf (.ref D) ce (.ok .next) s') :
    wpAny (model X.prog X.w) X.A (comprehension (.ListComp elt [⟨tg, iter, ifs, 0⟩] scope pos) scope X.env pos' (newList []) false (eval iter X.env) use) Qf X.xe s := by
  have hfree : ∀ y ∈ scope.names, y.2 = .free → ∃ c, X.env.cells.lookup y.1 = some c := fun y hy e => by
    rcases ok.free y hy e with k | k
    · exact I.ok.has _ (.inl k)
    · exact I.ok.has _ (.inr k)
  refine comprehension_at (use := use) rfl hs (closure_ok hfree) ok.kind (fun y hy e => by rw [ok.uniq y hy, e])
    (thn (hi.run pins s σ H _ I h) fun xv s1 hx => thn hx fun itv s2 h2 => ?_)
  obtain ⟨it, fp, tn, J, H2, e, I2, T, st2, f2, q⟩ := h2
  subst e
  refine wpAny_newObj_type (newEnv_comp ?_) (by show 0 ≤ sizeLine; decide)
  generalize hD : s2.heap.objs.size = D
  have hDn : H2 D = none := I2.hok.fresh (Nat.le_of_eq hD)
  obtain ⟨W1, ⟨m0, w0⟩, turn⟩ := q D hDn
  -- the new list
  generalize hs3 : ({ s2 with heap := s2.heap.push { cls := .type "list", data := .seq ([] : List Value).toArray } } : Shared) = s3
  have I3 : Inv X pins σ (upd H2 D (.lst [])) s3 := by
    rw [← hs3]
    refine I2.laid (t' := s2.toks) (fun b o e => Heap.get?_push_of_some _ e) (Nat.le_of_eq hD) ⟨Nat.zero_le _, [], 0, .nil, ?_⟩
    rw [← hD]
    exact Heap.get?_push_size _ rfl
  have h3 : s3.heap = s2.heap.push { cls := .type "list", data := .seq ([] : List Value).toArray } := by rw [← hs3]
  have sz : ∀ b ∈ fp, b < s2.heap.objs.size := fun b hb => by
    obtain ⟨o, e, _⟩ := T.obj _ _ st2 b hb
    exact Heap.lt_size e
  have f3 : ∀ b ∈ fp, FpOk X pins (upd H2 D (.lst [])) b ∧ b < s3.heap.objs.size := fun b hb => by
    have hlt := sz b hb
    refine ⟨⟨?_, (f2 b hb).2⟩, by rw [h3, Heap.size_push]; exact Nat.lt_succ_of_lt hlt⟩
    rw [upd_ne (by rw [← hD]; exact Nat.ne_of_lt hlt)]
    exact (f2 b hb).1
  have st3 : tn 0 s3.heap := T.keep _ _ _ st2 fun b _ o e => by rw [h3]; exact Heap.get?_push_of_some _ e
  have I4 := block_start I3 ok hN f3
  have pg := hg s3 (upd H2 D (.lst [])) s3.heap.objs.size (cellsFrom (s3.heap.objs.size + 1) scope.names (cloFrom X.env.cells scope.names [])) fp
  have pt := ht s3 (upd H2 D (.lst [])) s3.heap.objs.size (cellsFrom (s3.heap.objs.size + 1) scope.names (cloFrom X.env.cells scope.names [])) fp
  have pe := he s3 (upd H2 D (.lst [])) s3.heap.objs.size (cellsFrom (s3.heap.objs.size + 1) scope.names (cloFrom X.env.cells scope.names [])) fp
  show codeAny _ _ (.compStart (.ListComp elt [⟨tg, iter, ifs, 0⟩] scope pos) 0 (.ref it) (.ref D) (compEnvC scope (cellsFrom (s3.heap.objs.size + 1) scope.names (cloFrom X.env.cells scope.names [])) s3.heap.objs.size X.env)) (compEnds (model X.prog X.w) X.A X.xe use Qf (.ref D) (compEnvC scope (cellsFrom (s3.heap.objs.size + 1) scope.names (cloFrom X.env.cells scope.names [])) s3.heap.objs.size X.env)) { s3 with heap := pushCells (s3.heap.push { cls := .type "dict", data := .dict #[] }) scope.names }
  have nfp : ∀ b ∈ fp, (upd H2 D (.lst [])) b = none := fun b hb => (f3 b hb).1.1
  generalize hce : compEnvC scope (cellsFrom (s3.heap.objs.size + 1) scope.names (cloFrom X.env.cells scope.names [])) s3.heap.objs.size X.env = ce at I4 pg pt pe ⊢
  have cL : ce.locals = s3.heap.objs.size := by subst hce; rfl
  have cF : ce.frame = X.env.frame := by subst hce; rfl
  generalize hH3 : upd H2 D (.lst []) = H3 at I3 I4 pg pt pe w0 nfp f3
  generalize hs4 : ({ s3 with heap := pushCells (s3.heap.push { cls := .type "dict", data := .dict #[] }) scope.names } : Shared) = s4 at I4 ⊢
  have tkB := takes_blk (scope := scope) (ce := ce) (R := fun x s' => compEnds (model X.prog X.w) X.A X.xe use Qf (.ref D) ce (.error x) s') hst hf tk I3 f3 cL cF (fun x s' hx => by cases use <;> exact hx)
  generalize hxe : notedBy (model X.prog X.w) X.A ce (fun x s' => compEnds (model X.prog X.w) X.A X.xe use Qf (.ref D) ce (.error x) s') = xe at tkB
  have pg := pg xe
  have pt := pt xe
  have pe := pe xe _ tkB
  have I4 : Inv (X.blkE s3 H3 scope ce fp xe) [] (wipe σ (own.map (·.2))) H3 s4 := I4.toTry xe
  have st4 : tn 0 s4.heap := T.keep _ _ _ st3 fun b _ o e => by rw [← hs4]; exact pushCells_keeps _ _ _ _ (Heap.get?_push_of_some _ e)
  have stat : ∀ {σ' : L2.St} {H' : Hp} {s' : Shared}, Inv (X.blkE s3 H3 scope ce fp xe) [] σ' H' s' → (∀ b ∈ fp, H' b = none) → ∀ b ∈ fp, FpOk (X.blkE s3 H3 scope ce fp xe) [] H' b := fun {σ' H' s'} I' hn b hb =>
    ⟨hn b hb, (I'.ok.exf b hb).1, I'.ok.exfs b hb, .inl hb, fun x c e => (I'.ok.exf b hb).2 x c e, fun p hp => absurd (show p ∈ ([] : List (Addr × Obj)) ++ [] from hp) (by simp)⟩
  have loop : codeAny (model X.prog X.w) X.A (.compLoop (.ListComp elt [⟨tg, iter, ifs, 0⟩] scope pos) 0 (.ref it) (.ref D) ce) (compEnds (model X.prog X.w) X.A X.xe use Qf (.ref D) ce) s4 := by
    refine compLoop_any (fun n s' => ∃ i H', Inv (X.blkE s3 H3 scope ce fp xe) [] (wipe σ (own.map (·.2))) H' s' ∧ tn i s'.heap ∧ (∀ b ∈ fp, H' b = none) ∧ W1 i n H') ?_ m0 ⟨0, H3, I4, st4, nfp, w0⟩
    rw [hxe]
    rintro n s5 ⟨i, H5, I5, st5, n5, w5⟩
    rcases turn i n H5 w5 with ⟨stop, qq⟩ | ⟨go, Nx, hNx, step⟩
    · have td := T.done (X.blkE s3 H3 scope ce fp xe) rfl rfl rfl hc i [] s5 _ H5 (fun _ _ => False) I5 (stat I5 n5) st5 stop
      refine thnF td fun r s6 ⟨hr, I6⟩ => ?_
      subst hr
      -- back in the def's context
      have I7 : Inv X pins σ H5 s6 := I3.call' (ch := fp) I6.os I6.base I6.hok I6.bare fun b hb => ⟨(f3 b hb).1.2.2.2.1, (f3 b hb).1.2.1, (f3 b hb).1.2.2.2.2.1, (f3 b hb).1.2.2.2.2.2⟩
      have nC : H5 ce.locals = none := I6.free
      obtain ⟨m, hn, _⟩ := I6.loc
      have hn : s6.heap.Ns ce.locals m := hn
      exact hRR D ce s6 m H5 I7 qq hn (I3.fpOk (Nat.le_of_eq cL.symm) nC)
    · have ti := T.item (X.blkE s3 H3 scope ce fp xe) rfl rfl rfl hc i [] s5 _ H5 (fun _ _ => False) I5 (stat I5 n5) st5 go
      refine thnF ti fun r s6 ⟨u, hr, h6⟩ => ?_
      subst hr
      refine thnF h6 fun _ s7 ⟨x, H7, I7, r7, y7, st7, n7⟩ => ?_
      have I7' := I7.pinned (stat I7 n7) (T.obj _ _ st7)
      refine thn (pg.run _ s7 _ H7 x u _ I7' r7 (step x H7 y7)) fun _ s8 ⟨σ8, H8, I8, hw8, q8⟩ => ?_
      refine thn (pt.run _ s8 σ8 H8 _ I8 q8) fun b s9 ⟨H9, I9, q9⟩ => ?_
      -- the turn's end
      have fin : ∀ {s' : Shared} {H' : Hp}, Inv (X.blkE s3 H3 scope ce fp xe) ([] ++ pinsAt fp s7.heap) σ8 H' s' → Nx H' → ∃ m, m < n ∧ ∃ i H', Inv (X.blkE s3 H3 scope ce fp xe) [] (wipe σ (own.map (·.2))) H' s' ∧ tn i s'.heap ∧ (∀ b ∈ fp, H' b = none) ∧ W1 i m H' := fun {s' H'} I' nx => by
        obtain ⟨m', hm, w'⟩ := hNx H' nx
        have pin' : ∀ b ∈ fp, ∀ o, s7.heap.get? b = some o → s'.heap.get? b = some o ∧ H' b = none := fun b hb o e =>
          let z := I'.pin (b, o) (List.mem_append_right _ (List.mem_append_right _ (mem_pinsAt hb e)))
          ⟨z.1, z.2.1⟩
        have hl : (wipe σ (own.map (·.2))).length = σ8.length := by rw [← hw8, wipe_length]
        refine ⟨m', hm, i + 1, H', (I'.unpinned (pins := [])).weak hl (fun j v e => ?_), T.keep _ _ _ st7 fun b hb o e => (pin' b hb o e).1, fun b hb => ?_, w'⟩
        · rw [← hw8] at e
          exact (wipe_some e).1
        · obtain ⟨o, e, _⟩ := T.obj _ _ st7 b hb
          exact (pin' b hb o e).2
      cases b with
      | false =>
        simp only [Bool.false_eq_true, if_false] at q9 ⊢
        exact fin I9 q9
      | true =>
        simp only [if_true] at q9 ⊢
        refine thn (pe.run _ s9 σ8 H9 _ I9 q9) fun z s10 ⟨yv, H10, I10, r10, acc, hD10, hz10, nx⟩ => ?_
        exact app_ok (X := X.blkE s3 H3 scope ce fp xe) I10 hD10 hz10 r10 fun s11 I11 => fin I11 nx
  exact codeAny_compStart_list loop (T.self X.A 0 _ _ _ st4 loop)
/-- as a value -/
theorem pe_lcX {elt tg iter : Expr} {ifs : List Expr} {scope : Scope} {own : List (Str × Nat)} {pos : Pos} {wi : TI} {g : TG} {tt : TT} {te : TEX}
    (hst : X.stack = X.env :: X.outer) (hf : X.env.frame = some X.env.locals) (tk : L2N.Takes X W) (hc : X.calm = true) (hN : X.N.Nodup) (hi : PI X tg iter wi) (ok : BlkOk X.N X.env.scope scope own)
    (hg : ∀ (s : Shared) (H : Hp) (C : Addr) (cl : List (Str × Addr)) (fp : List Addr) (xe : Value → Shared → Prop), PG (X.blkE s H scope (compEnvC scope cl C X.env) fp xe) tg g)
    (ht : ∀ (s : Shared) (H : Hp) (C : Addr) (cl : List (Str × Addr)) (fp : List Addr) (xe : Value → Shared → Prop), PTs (X.blkE s H scope (compEnvC scope cl C X.env) fp xe) ifs tt)
    (he : ∀ (s : Shared) (H : Hp) (C : Addr) (cl : List (Str × Addr)) (fp : List Addr) (xe : Value → Shared → Prop) (W' : WX), L2N.Takes (X.blkE s H scope (compEnvC scope cl C X.env) fp xe) W' → PE (X.blkE s H scope (compEnvC scope cl C X.env) fp xe) elt (te W'))
    (hs : ∀ x, foldedSetIterable iter X.env x = pure x := by intro _; rfl) :
    PE X (.ListComp elt [⟨tg, iter, ifs, 0⟩] scope pos) (tLcX wi g tt te (own.map (·.2)) W) := by
  refine ⟨fun pins s σ H Q I h => ?_⟩
  rw [eval_ListComp]
  refine lc_coreX hst hf tk hc hN I hi ok hg ht he hs h fun D ce s' m H' I' q hn f => ⟨m, hn, fun h'' sb => ?_⟩
  obtain ⟨f0, f1, f2, f3, f4, f5⟩ := f
  exact ⟨.ref D, H', I'.turned (t' := s'.toks) (fun b o hb e => (sb.2 b hb).trans e) f0 f1 f3 f4 f5, rfl, q⟩
end
noncomputable def lcX (tg : Tg) (src : Src) (t : Ev Bool) (f : Ev D) (e : En) : List D → Sto → Res (List D)
  | [], S => if src.ok S then .ok [] S else .bad
  | x :: xs, S => if src.ok S then match bindT tg x e with
    | none => .bad
    | some e1 => (nox (t e1 S)).bind fun b S => if b = true then (f e1 S).bind fun d S => (lcX tg src t f e xs S).bind fun ds S => .ok (d :: ds) S else lcX tg src t f e xs S
    else .bad
theorem lcX_nil {tg : Tg} {src : Src} {t : Ev Bool} {f : Ev D} {e : En} {S : Sto} : lcX tg src t f e [] S = if src.ok S then .ok [] S else .bad := by
  unfold lcX
  rfl
theorem lcX_cons {tg : Tg} {src : Src} {t : Ev Bool} {f : Ev D} {e : En} {S : Sto} {x : D} {xs : List D} : lcX tg src t f e (x :: xs) S = if src.ok S then match bindT tg x e with
    | none => .bad
    | some e1 => (nox (t e1 S)).bind fun b S => if b = true then (f e1 S).bind fun d S => (lcX tg src t f e xs S).bind fun ds S => .ok (d :: ds) S else lcX tg src t f e xs S
    else .bad := by
  conv => lhs; unfold lcX
noncomputable def nLcX (vs : List Nat) (tg : Tg) (it : Ev Src) (t : Ev Bool) (f : Ev D) : Ev DO := fun e S => (it e S).bind fun src S => if src.items.length ≤ sizeLine then (lcX tg src t f (wipeE e vs) src.items S).bind fun ds S => .ok (.lst ds) S else .bad
section
variable {cl : Str → Addr} {W : WX} {X : Cx} {elt tgE iter : Expr} {ifs : List Expr} {scope : Scope} {own : List (Str × Nat)} {pos spos : Pos} {it : Ev Src} {tg : Tg} {t : Ev Bool} {f : Ev D}
theorem imp_lcX {K : PySem.W.Frag} (hsl : ∀ j, j ∈ tg.sl → j ∈ own.map (·.2)) (σ : L2.St) (H : Hp) (Q : VK) :
    TDN K cl W (nLcX (own.map (·.2)) tg it t f) σ H Q → tLcX (TDi K cl W it) (TDg K cl tg) (TD K cl W0 RB t) (fun W' => TD K cl W' (VR K) f) (own.map (·.2)) W σ H Q := fun ⟨am, e, S, rs, re, p⟩ => by
  refine ⟨am, e, S, rs, re, (PostN.step p).imp fun J H1 ⟨am1, S1, src, _, g1, rs1, hJ, p1⟩ => ?_⟩
  intro D hD
  by_cases hz : src.items.length ≤ sizeLine
  · rw [if_pos hz] at p1
    have hD0 : H D = none := g1.unborn rs1 hD
    -- the invariant
    refine ⟨fun i m H2 => m = src.items.length - i ∧ i ≤ src.items.length ∧ ∃ am2 S2 acc vacc, Grow am1 am2 H1 H2 ∧ RelS K cl am2 S2 H2 ∧ D ∈ am2.no ∧ D ∉ am2.ad ∧ H2 D = some (.lst vacc) ∧ VRs K am2 H2 acc vacc ∧ acc.length ≤ i ∧
        RelE K am2 H2 (wipeE e (own.map (·.2))) (L2.wipe σ (own.map (·.2))) ∧
        ((lcX tg src t f (wipeE e (own.map (·.2))) src.items S1).bind fun ds S => Res.ok (DO.lst ds) S) = ((lcX tg src t f (wipeE e (own.map (·.2))) (src.items.drop i) S2).bind fun ds S => .ok (.lst (acc ++ ds)) S),
      ⟨_, rfl, Nat.zero_le _, am1.resv D, S1, [], [], Grow.resv hD, rs1.resv hD, List.mem_cons_self, fun z => rs1.new hD (am1.sub D z), upd_same, .nil, Nat.le_refl _, ((re.wipe _).mono g1).mono (Grow.resv hD), by rw [List.drop_zero] <;> rfl⟩, ?_⟩
    rintro i m H2 ⟨rfl, hi, am2, S2, acc, vacc, g2, rs2, dn, dd, hacc, racc, lacc, re2, eqn⟩
    rw [eqn] at p1
    by_cases hok : src.ok S2
    · obtain ⟨hgo, hstop⟩ := hJ am2 H2 S2 g2 rs2 hok
      by_cases hlt : i < src.items.length
      · have hd : src.items[i]? = some src.items[i] := List.getElem?_eq_getElem hlt
        obtain ⟨go, yld⟩ := hgo i _ hd
        rw [List.drop_eq_getElem_cons hlt] at p1 eqn
        rw [lcX_cons, if_pos hok] at p1 eqn
        cases q : bindT tg src.items[i] (wipeE e (own.map (·.2))) with
        | none => simp only [q] at p1; exact p1.elim
        | some e3 =>
          simp only [q] at p1 eqn
          refine .inr ⟨go, fun H' => ∃ am2 S2 acc vacc, Grow am1 am2 H1 H' ∧ RelS K cl am2 S2 H' ∧ D ∈ am2.no ∧ D ∉ am2.ad ∧ H' D = some (.lst vacc) ∧ VRs K am2 H' acc vacc ∧ acc.length ≤ i + 1 ∧
              RelE K am2 H' (wipeE e (own.map (·.2))) (L2.wipe σ (own.map (·.2))) ∧
              ((lcX tg src t f (wipeE e (own.map (·.2))) src.items S1).bind fun ds S => Res.ok (DO.lst ds) S) = ((lcX tg src t f (wipeE e (own.map (·.2))) (src.items.drop (i + 1)) S2).bind fun ds S => .ok (.lst (acc ++ ds)) S),
            fun H' hN => ⟨src.items.length - (i + 1), by omega, rfl, hlt, hN⟩, fun x H3 hy => ?_⟩
          obtain ⟨am3, g3, rs3, rv⟩ := yld x H3 hy
          refine ⟨am3, _, S2, _, e3, rs3, re2.mono g3, rv, q, fun σ3 re3 b3 => ⟨?_, ?_⟩⟩
          · rw [b3.wipe hsl]
            -- wiping twice
            apply List.ext_getElem?
            intro j
            simp only [wipe_get, wipe_length]
            by_cases hj : j ∈ own.map (·.2)
            · simp only [if_pos hj]
            · simp only [if_neg hj]
          · -- the test
            cases q2 : t e3 S2 with
            | exc c S => simp only [q2, nox, Res.bind_bad] at p1; exact p1.elim
            | bad => simp only [q2, nox, Res.bind_bad] at p1; exact p1.elim
            | ok b S4 =>
              simp only [q2, nox, Res.bind_ok] at p1 eqn
              have hDs : ∃ o, H2 D = some o := ⟨_, hacc⟩
              refine ⟨am3, e3, S2, rs3, re3, ?_⟩
              rw [q2]
              intro am4 k H4 g4 rs4 rk
              have rk : b = k := rk
              subst rk
              have g24 := g3.trans g4
              have dd4 : D ∉ am4.ad := g24.inNo hDs dd
              have keepD : ∀ {am' : AM} {H' : Hp}, Grow am2 am' H2 H' → H' D = some (.lst vacc) := fun {am' H'} g => g.keep D _ hacc dd
              cases b with
              | false =>
                rw [if_neg Bool.false_ne_true]
                rw [if_neg Bool.false_ne_true] at eqn
                exact ⟨am4, S4, acc, vacc, g2.trans g24, rs4, g24.noK D dn, dd4, keepD g24, racc.mono g24, by omega, re2.mono g24, eqn⟩
              | true =>
                rw [if_pos rfl]
                rw [if_pos rfl] at p1 eqn
                refine ⟨am4, e3, S4, rs4, re3.mono g4, ?_⟩
                cases q3 : f e3 S4 with
                | exc c S =>
                  simp only [q3] at p1
                  exact fun am5 H5 g5 rs5 => p1 am5 H5 ((g1.trans (g2.trans g24)).trans g5) rs5
                | bad => simp only [q3, Res.bind_bad] at p1; exact p1.elim
                | ok d S5 =>
                  simp only [q3, Res.bind_ok] at p1 eqn
                  intro am5 y H5 g5 rs5 ry
                  have g25 := g24.trans g5
                  have dn5 := g25.noK D dn
                  have dd5 : D ∉ am5.ad := g25.inNo hDs dd
                  have hv : (vacc ++ [y]).length = (acc ++ [d]).length := by rw [List.length_append, List.length_append, racc.length] <;> rfl
                  refine ⟨vacc, keepD g25, by rw [← racc.length]; omega, am5, S5, acc ++ [d], vacc ++ [y], (g2.trans g25).own hD, rs5.own dn5 dd5, dn5, dd5, upd_same,
                    ((racc.mono g25).append (.cons ry .nil)).ext (Ext.own dn5), by rw [List.length_append]; exact Nat.succ_le_succ lacc, (re2.mono g25).ext (Ext.own dn5), ?_⟩
                  rw [eqn]
                  cases lcX tg src t f (wipeE e (own.map (·.2))) (src.items.drop (i + 1)) S5 with
                  | ok ds S6 => simp
                  | exc c S6 => rfl
                  | bad => rfl
      · have ei : i = src.items.length := by omega
        subst ei
        rw [List.drop_length] at p1
        rw [lcX_nil, if_pos hok] at p1
        simp only [Res.bind_ok, List.append_nil] at p1
        exact .inl ⟨hstop _ (Nat.le_refl _), p1 am2 D H2 (g1.trans g2) rs2 hD0 dn dd ⟨vacc, hacc, racc⟩⟩
    · exfalso
      cases hl : src.items.drop i with
      | nil => rw [hl, lcX_nil, if_neg hok] at p1; exact p1
      | cons x xs => rw [hl, lcX_cons, if_neg hok] at p1; exact p1
  · rw [if_neg hz] at p1
    exact p1.elim
theorem qn_lcX (hst : X.stack = X.env :: X.outer) (hf : X.env.frame = some X.env.locals) (tk : L2N.Takes X W) (hc : X.calm = true) (hN : X.N.Nodup) (hi : QI cl W X tgE iter it) (ok : BlkOk X.N X.env.scope scope own) (hsl : tg.sl.all fun j => decide (j ∈ own.map (·.2)))
    (hg : ∀ (s : Shared) (H : Hp) (C : Addr) (cs : List (Str × Addr)) (fp : List Addr) (xe : Value → Shared → Prop), QG cl (X.blkE s H scope (compEnvC scope cs C X.env) fp xe) tgE tg)
    (ht : ∀ (s : Shared) (H : Hp) (C : Addr) (cs : List (Str × Addr)) (fp : List Addr) (xe : Value → Shared → Prop), QTs cl W0 (X.blkE s H scope (compEnvC scope cs C X.env) fp xe) ifs t)
    (he : ∀ (s : Shared) (H : Hp) (C : Addr) (cs : List (Str × Addr)) (fp : List Addr) (xe : Value → Shared → Prop) (W' : WX), L2N.Takes (X.blkE s H scope (compEnvC scope cs C X.env) fp xe) W' → QE cl W' (X.blkE s H scope (compEnvC scope cs C X.env) fp xe) elt f)
    (hs : ∀ x, foldedSetIterable iter X.env x = pure x := by intro _; rfl) :
    QN cl W X (.ListComp elt [⟨tgE, iter, ifs, 0⟩] scope pos) (nLcX (own.map (·.2)) tg it t f) :=
  (pe_lcX hst hf tk hc hN hi ok hg ht he hs).imp (imp_lcX fun j hj => of_decide_eq_true (List.all_eq_true.mp hsl j hj))
end
end Pu
set_option Elab.async false
set_option linter.all false
set_option maxRecDepth 100000
set_option maxHeartbeats 2000000
namespace Pu
open PySem PySem.Spec PyProof.Rows L2
end Pu
set_option Elab.async false
set_option linter.all false
set_option maxRecDepth 100000
set_option maxHeartbeats 2000000
namespace Pu
open PySem PySem.Spec PyProof.Rows L2
end Pu
set_option Elab.async false
set_option linter.all false
set_option maxRecDepth 100000
set_option maxHeartbeats 2000000
namespace Pu
open PySem PySem.Spec PyProof.Rows L2
end Pu
set_option Elab.async false
set_option linter.all false
set_option maxRecDepth 100000
set_option maxHeartbeats 2000000
namespace Pu
open PySem PySem.Spec PyProof.Rows L2
noncomputable def tupTwo (d : D) (k : D → D → SRes) : SRes := match d with
  | .tup [a, b] => k a b
  | _ => .bad
@[simp] theorem tupTwo_ap {a b : D} {k : D → D → SRes} : tupTwo (.tup [a, b]) k = k a b := id rfl
noncomputable def sSwap (fs : List (Ev D)) (g1 h1 g2 h2 : Ev D) : Stm := fun e S => (eTup fs e S).stm e fun d S => tupTwo d fun d1 d2 => (g1 e S).stm e fun o1 S => (h1 e S).stm e fun i1 S => (match stD o1 i1 d1 S with
    | some S => (g2 e S).stm e fun o2 S => (h2 e S).stm e fun i2 S => (match stD o2 i2 d2 S with
      | some S => .next e S
      | none => .bad)
    | none => .bad)
section
variable {cl : Str → Addr} {W : WX} {X : Cx} {a b1 c1 b2 c2 : Expr} {fs : List (Ev D)} {g1 h1 g2 h2 : Ev D} {pos p1 p2 pt : Pos} {k2 : Nat}
@[simp] theorem ap_Swap {e : En} {S : Sto} : sSwap fs g1 h1 g2 h2 e S = (eTup fs e S).stm e fun d S => tupTwo d fun d1 d2 => (g1 e S).stm e fun o1 S => (h1 e S).stm e fun i1 S => (match stD o1 i1 d1 S with
    | some S => (g2 e S).stm e fun o2 S => (h2 e S).stm e fun i2 S => (match stD o2 i2 d2 S with
      | some S => .next e S
      | none => .bad)
    | none => .bad) := id rfl
end
noncomputable def eSel (f : Ev D) (F0 F1 : List D → Sto → Res D) (fs : List (Ev D)) : Ev D := fun e S => (f e S).bind fun d S => match d with
  | .int i => (match atI [F0, F1] i with
    | some F => (eArgs fs e S).bind F
    | none => .bad)
  | _ => .bad
noncomputable def tSel2 (f0 f1 : Addr) (sp0 sp1 : Sp) (E : L2.St → XK) (tf : TE) (t : TA) : TE := fun σ H Q => tf σ H fun y H1 => (y = .ref f0 ∧ t σ H1 fun vs H2 => sp0 vs H2 Q (E σ)) ∨ (y = .ref f1 ∧ t σ H1 fun vs H2 => sp1 vs H2 Q (E σ))
section
variable {X : Cx} {CX : CXT} {k : Nat} {f0 f1 : Addr} {fd0 fd1 : FuncData} {ps0 ps1 : List Str} {sp0 sp1 : Sp} {E : L2.St → XK} {fe e : Expr} {es : List Expr} {tf : TE} {t : TA} {pos : Pos}
theorem pe_sel2 (F0 : FnOk X.prog X.w X.K X.mg X.base CX k f0 fd0 ps0 sp0) (F1 : FnOk X.prog X.w X.K X.mg X.base CX k f1 fd1 ps1 sp1) (hr : Room k X.A) (k0 : PySem.W.keepIn X.K (.ref f0) = true) (k1 : PySem.W.keepIn X.K (.ref f1) = true) (hb0 : Binds X.K fd0 ps0 []) (hb1 : Binds X.K fd1 ps1 []) (hx : ∀ σ, PassesAt CX X σ (E σ))
    (hf : PE X fe tf) (ha : PA X (e :: es) t)
    (ht : eval (.Call fe (e :: es) [] pos) X.env = (do callWith pos (← eval fe X.env) [] (backTo pos (starEach (e :: es) X.env)) (backToKw pos (keywordEach [] X.env))) := by rfl)
    (he : starEach (e :: es) X.env = (false, eval e X.env) :: starEach es X.env := by rfl) (hpl : (backTo pos (starEach es X.env)).any (·.1) = false := by rfl) : PE X (.Call fe (e :: es) [] pos) (tSel2 f0 f1 sp0 sp1 E tf t) := by
  refine ⟨fun pins s σ H Q I h => ?_⟩
  refine Call_ (thn (hf.run pins s σ H _ I h) fun u s1 ⟨y, H1, I1, ry, q⟩ => ?_) ht
  rcases q with ⟨ey, q⟩ | ⟨ey, q⟩
  · subst ey
    obtain rfl : u = Value.ref f0 := ry
    refine PySem.W.callWith_K (h₀ := X.base) I1.ok.mod.kin k0 (thn (ha.run pos pins s1 σ H1 _ I1 q) fun us s2 ⟨vs, H2, I2, r, q2⟩ => ⟨I2.kIn, ?_⟩) he hpl
    exact run_fnS F0 hr hb0 (hx σ) I2 r q2
  · subst ey
    obtain rfl : u = Value.ref f1 := ry
    refine PySem.W.callWith_K (h₀ := X.base) I1.ok.mod.kin k1 (thn (ha.run pos pins s1 σ H1 _ I1 q) fun us s2 ⟨vs, H2, I2, r, q2⟩ => ⟨I2.kIn, ?_⟩) he hpl
    exact run_fnS F1 hr hb1 (hx σ) I2 r q2
end
section
variable {cl : Str → Addr} {W : WX} {X : Cx} {a b : Expr} {es : List Expr} {f : Ev D} {fs : List (Ev D)} {pos p0 p1 pl ps' : Pos} {x0 x1 : Str}
theorem RelS.unAd {K : PySem.W.Frag} {am : AM} {S : Sto} {H : Hp} {p : Addr} (rs : RelS K cl am S H) (h : H p = none) : p ∉ am.ad := fun z => by
  obtain ⟨n, hn, e⟩ := List.mem_iff_getElem.mp z
  have hk : n < S.length := by rw [← rs.len]; exact hn
  obtain ⟨a, h1, h2⟩ := rs.has (List.getElem?_eq_getElem hk)
  rw [List.getElem?_eq_getElem hn, e] at h1
  cases h1
  cases q : S[n] with
  | lst ds => rw [q] at h2; obtain ⟨vs, h3, _⟩ := h2; rw [h] at h3; cases h3
  | dct ds => rw [q] at h2; obtain ⟨vs, h3, _⟩ := h2; rw [h] at h3; cases h3
  | ins c fs => rw [q] at h2; obtain ⟨dx, vs, h3, _⟩ := h2; rw [h] at h3; cases h3
theorem Post.growU {K : PySem.W.Frag} {σ : L2.St} {α β : Type} {R : AM → Hp → α → β → Prop} {am am' : AM} {H H' : Hp} {r : Res α} {Q : β → Hp → Prop} (g : Grow am am' H H') (p : Post K cl W σ R am H r Q) : Post K cl W σ R am' H' r Q := by
  cases r with
  | ok a S => exact fun am2 b H2 g2 rs rb => p am2 b H2 (g.trans g2) rs rb
  | exc c S => exact fun am2 H2 g2 rs => p am2 H2 (g.trans g2) rs
  | bad => exact p
theorem qe_sel {k : Nat} {ps : List Str} {F0 F1 : List D → Sto → Res D} (G0 : DefOk X.prog X.w X.K X.mg X.base cl x0 k ps F0) {ps2 : List Str} (G1 : DefOk X.prog X.w X.K X.mg X.base cl x1 k ps2 F1) (hr : Room k X.A) (hg0 : Gl X x0) (hg1 : Gl X x1) (tk : L2N.Takes X W) (hi : QE cl W X b f) (ha : QA cl W X (a :: es) (eArgs fs)) (hn : fs.length = ps.length := by rfl) (hn2 : fs.length = ps2.length := by rfl)
    (hd0 : (x0 == ("__debug__" : Str)) = false := by decide) (hd1 : (x1 == ("__debug__" : Str)) = false := by decide) (hs : PlainIx b := by intro _ _; rfl)
    (ht : eval (.Call (.Subscript (.List [.Name x0 p0, .Name x1 p1] pl) b ps') (a :: es) [] pos) X.env = (do callWith pos (← eval (.Subscript (.List [.Name x0 p0, .Name x1 p1] pl) b ps') X.env) [] (backTo pos (starEach (a :: es) X.env)) (backToKw pos (keywordEach [] X.env))) := by rfl)
    (he : starEach (a :: es) X.env = (false, eval a X.env) :: starEach es X.env := by rfl) (hpl : (backTo pos (starEach es X.env)).any (·.1) = false := by rfl) : QE cl W X (.Call (.Subscript (.List [.Name x0 p0, .Name x1 p1] pl) b ps') (a :: es) [] pos) (eSel f F0 F1 fs) := by
  obtain ⟨f0, fd0, K0, m0, k0, b0, _⟩ := G0.ex
  obtain ⟨f1, fd1, K1, m1, k1, b1, _⟩ := G1.ex
  refine (pe_sel2 K0 K1 hr k0 k1 (.all b0) (.all b1) (fun σ => L2N.passAt tk σ) (pe_ix ix_list (pe_lst (pa_cons (pe_glob (u := .ref f0) (v := .ref f0) hg0 m0 rfl hd0) (pa_cons (pe_glob (u := .ref f1) (v := .ref f1) hg1 m1 rfl hd1) pa_nil))) hi hs) ha ht he hpl).imp fun σ H Q ⟨am, e, S, rs, re, p⟩ => ?_
  refine ⟨by show 2 ≤ sizeLine; decide +kernel, fun q hq => ?_⟩
  refine ⟨am, e, S, rs.upd hq, re.mono (Grow.upd hq), (Post.step (Post.growU (Grow.upd hq) p)).imp fun y H1 ⟨am1, S1, d, _, n1, rs1, rv, p1⟩ => ?_⟩
  have hk : H1 q = some (.lst [.ref f0, .ref f1]) := n1.keep q _ upd_same (rs.unAd hq)
  cases rv with
  | int i =>
    simp only at p1
    have sq : SqL X.K H1 q [.ref f0, .ref f1] := .inl (.inl hk)
    cases e2 : atI [F0, F1] i with
    | none => simp only [e2] at p1; exact p1.elim
    | some F =>
      simp only [e2] at p1
      have two : (F = F0 ∧ atI [V.ref f0, V.ref f1] i = some (.ref f0)) ∨ (F = F1 ∧ atI [V.ref f0, V.ref f1] i = some (.ref f1)) := by
        unfold atI at e2 ⊢
        simp only [List.length_cons, List.length_nil] at e2 ⊢
        cases e3 : ixN (0 + 1 + 1) i with
        | none => rw [e3] at e2; cases e2
        | some n =>
          rw [e3] at e2
          simp only [Option.bind_some] at e2 ⊢
          match n, e2 with
          | 0, e2 => cases e2; exact .inl ⟨rfl, rfl⟩
          | 1, e2 => cases e2; exact .inr ⟨rfl, rfl⟩
          | n + 2, e2 => simp at e2
      rcases two with ⟨rfl, e4⟩ | ⟨rfl, e4⟩
      · refine ⟨q, _, i, .ref f0, rfl, rfl, sq, e4, .inl ⟨rfl, am1, e, S1, rs1, (re.mono (Grow.upd hq)).mono n1, (Post.step p1).imp fun xs H2 ⟨am2, S2, ds, ee, n2, rs2, rvs, p2⟩ => ?_⟩⟩
        exact ⟨am2, ds, S2, by rw [eArgs_len ee, hn], rs2, rvs, p2⟩
      · refine ⟨q, _, i, .ref f1, rfl, rfl, sq, e4, .inr ⟨rfl, am1, e, S1, rs1, (re.mono (Grow.upd hq)).mono n1, (Post.step p1).imp fun xs H2 ⟨am2, S2, ds, ee, n2, rs2, rvs, p2⟩ => ?_⟩⟩
        exact ⟨am2, ds, S2, by rw [eArgs_len ee, hn2], rs2, rvs, p2⟩
  | _ => exact p1.elim
@[simp] theorem ap_Sel {F0 F1 : List D → Sto → Res D} {e : En} {S : Sto} : eSel f F0 F1 fs e S = (f e S).bind fun d S => match d with
  | .int i => (match atI [F0, F1] i with
    | some F => (eArgs fs e S).bind F
    | none => .bad)
  | _ => .bad := id rfl
end
end Pu
set_option Elab.async false
set_option linter.all false
set_option maxRecDepth 100000
namespace Pu
open PySem PySem.Spec PyProof.Rows L2
end Pu
set_option Elab.async false
set_option linter.all false
set_option maxRecDepth 100000
set_option maxHeartbeats 4000000
namespace Lw
open PySem PySem.Spec PyProof.Rows L2 Pu
section
variable {p : List Value → Prop}
theorem us1 (h : ∀ a0, p [a0]) : ∀ us : List Value, us.length = 1 → p us
  | [_], _ => h _
theorem us2 (h : ∀ a0 a1, p [a0, a1]) : ∀ us : List Value, us.length = 2 → p us
  | [_, _], _ => h _ _
theorem us3 (h : ∀ a0 a1 a2, p [a0, a1, a2]) : ∀ us : List Value, us.length = 3 → p us
  | [_, _, _], _ => h _ _ _
end
noncomputable def topS (i : Nat) : Stmt := PySem.Challenge.pw_walkframe_k65_texts_of_addresses_and_wal.main.body.getD i (.Pass ⟨0, 0, 0, 0⟩)
structure Bt (K : PySem.W.Frag) (mg : Str → Option Value) : Prop where
  ValueError : mg "ValueError" = none
  abs : mg "abs" = none
  all : mg "all" = none
  any : mg "any" = none
  bool : mg "bool" = none
  int : mg "int" = none
  isinstance : mg "isinstance" = none
  len : mg "len" = none
  list : mg "list" = none
  max : mg "max" = none
  min : mg "min" = none
  range : mg "range" = none
  str : mg "str" = none
  tuple : mg "tuple" = none
  g_DIGITS : ∃ t, mg "DIGITS" = some (.str "0123456789" t)
  g_MOST_NUMBER : ∃ t, mg "MOST_NUMBER" = some (.int 596216567187872108348956733961803993280 t)
  g_NOTHING : ∃ t, mg "NOTHING" = some (.str "none" t)
  g_NO_RUNS : ∃ t, mg "NO_RUNS" = some (.str "-" t)
  g_STEPS : GT K mg "STEPS" [1, 2, (-1), (-2)]
  g_STREETS : ∃ t, mg "STREETS" = some (.int 31 t)
structure Er (K : PySem.W.Frag) (mg : Str → Option Value) (cl : Str → Addr) : Prop where
  c_LetterError : ClsE K mg cl "LetterError"
  c_NoText : ClsE K mg cl "NoText"
  g_LetterError : mg "LetterError" = some (.ref (cl "LetterError"))
  g_NoBin : mg "NoBin" = some (.ref (cl "NoBin"))
  g_NoBook : mg "NoBook" = some (.ref (cl "NoBook"))
  g_NoCarrier : mg "NoCarrier" = some (.ref (cl "NoCarrier"))
  g_NoLetter : mg "NoLetter" = some (.ref (cl "NoLetter"))
  g_NoMark : mg "NoMark" = some (.ref (cl "NoMark"))
  g_NoOffice : mg "NoOffice" = some (.ref (cl "NoOffice"))
  g_NoOrder : mg "NoOrder" = some (.ref (cl "NoOrder"))
  g_NoPile : mg "NoPile" = some (.ref (cl "NoPile"))
  g_NoPlan : mg "NoPlan" = some (.ref (cl "NoPlan"))
  g_NoRow : mg "NoRow" = some (.ref (cl "NoRow"))
  g_NoStop : mg "NoStop" = some (.ref (cl "NoStop"))
  g_NoTaking : mg "NoTaking" = some (.ref (cl "NoTaking"))
  g_NoText : mg "NoText" = some (.ref (cl "NoText"))
  g_NotDone : mg "NotDone" = some (.ref (cl "NotDone"))
  i_NoText_NoBin : PySem.W.kitOne K (.ref (cl "NoText")) (.ref (cl "NoBin")) = some false
  i_NoText_NoBook : PySem.W.kitOne K (.ref (cl "NoText")) (.ref (cl "NoBook")) = some false
  i_NoText_NoCarrier : PySem.W.kitOne K (.ref (cl "NoText")) (.ref (cl "NoCarrier")) = some false
  i_NoText_NoLetter : PySem.W.kitOne K (.ref (cl "NoText")) (.ref (cl "NoLetter")) = some false
  i_NoText_NoMark : PySem.W.kitOne K (.ref (cl "NoText")) (.ref (cl "NoMark")) = some false
  i_NoText_NoOffice : PySem.W.kitOne K (.ref (cl "NoText")) (.ref (cl "NoOffice")) = some false
  i_NoText_NoOrder : PySem.W.kitOne K (.ref (cl "NoText")) (.ref (cl "NoOrder")) = some false
  i_NoText_NoPile : PySem.W.kitOne K (.ref (cl "NoText")) (.ref (cl "NoPile")) = some false
  i_NoText_NoPlan : PySem.W.kitOne K (.ref (cl "NoText")) (.ref (cl "NoPlan")) = some false
  i_NoText_NoRow : PySem.W.kitOne K (.ref (cl "NoText")) (.ref (cl "NoRow")) = some false
  i_NoText_NoStop : PySem.W.kitOne K (.ref (cl "NoText")) (.ref (cl "NoStop")) = some false
  i_NoText_NoTaking : PySem.W.kitOne K (.ref (cl "NoText")) (.ref (cl "NoTaking")) = some false
  i_NoText_NoText : PySem.W.kitOne K (.ref (cl "NoText")) (.ref (cl "NoText")) = some true
  i_NoText_NotDone : PySem.W.kitOne K (.ref (cl "NoText")) (.ref (cl "NotDone")) = some false
  s_NoText_LetterError : PySem.W.subIn K (.ref (cl "NoText")) (.ref (cl "LetterError")) = some true
  v_NoText : PySem.W.kitOne K (.ref (cl "NoText")) (.type "ValueError") = some true
  x_NoText : ExcC K (cl "NoText")
section
variable {P : Program} {w : World} {K : PySem.W.Frag} {mg : Str → Option Value} {base : Heap} {cl : Str → Addr}
noncomputable abbrev sis_whole : Stmt := topS 20
theorem cis_whole : FnScope ["some"] ["some"] (defScope sis_whole) := ⟨rfl, rfl, rfl, by decide +kernel, rfl, by decide +kernel, by decide +kernel⟩
noncomputable def bis_whole : Stm := (sRet (eAndD (e1 (isD "int") (eVar 0)) (eNotD (e1 (isD "bool") (eVar 0)))))
noncomputable def Fis_whole : List D → Sto → Res D := runD .frz 1 bis_whole
theorem kis_whole (T : Bt K mg) (Ee : Er K mg cl) (I : DefIn K mg "is_whole" sis_whole ["some"])  : DefOk P w K mg base cl "is_whole" 1 ["some"] Fis_whole := by
  refine def_ok (k := 0) I cis_whole fun f cdv A outer s H E hr => ?_
  have nd := cis_whole.nd
  have tk : L2N.Takes (cxOf (L2N.CX P w) P w K mg base ["some"] "is_whole" (defScope sis_whole) f cdv A outer s H E) (fun c d _ H => E c d H)   := L2N.takes_of rfl rfl rfl rfl
  have hp : PassesOwn (model P w) (cxOf (L2N.CX P w) P w K mg base ["some"] "is_whole" (defScope sis_whole) f cdv A outer s H E).A (cxOf (L2N.CX P w) P w K mg base ["some"] "is_whole" (defScope sis_whole) f cdv A outer s H E).env (cxOf (L2N.CX P w) P w K mg base ["some"] "is_whole" (defScope sis_whole) f cdv A outer s H E).xe := passes_of rfl
  exact (qb_one (qs_ret (qe_and (qe_is (T' := "int") (by decide) (by rfl) T.isinstance (by rfl) T.int (by decide +kernel) (qv 0)) (qe_one (qe_not (qe_is (T' := "bool") (by decide) (by rfl) T.isinstance (by rfl) T.bool (by decide +kernel) (qv 0)))))))
noncomputable abbrev sis_street : Stmt := topS 21
theorem cis_street : FnScope ["some"] ["some"] (defScope sis_street) := ⟨rfl, rfl, rfl, by decide +kernel, rfl, by decide +kernel, by decide +kernel⟩
noncomputable def bis_street : Stm := (sRet (eAndD (eFn Fis_whole [(eVar 0)]) (eCh leD ltD (eC (.int 0)) (eVar 0) (eC (.int 31)))))
noncomputable def Fis_street : List D → Sto → Res D := runD .frz 1 bis_street
theorem kis_street (T : Bt K mg) (Ee : Er K mg cl) (I : DefIn K mg "is_street" sis_street ["some"]) (Gis_whole : DefOk P w K mg base cl "is_whole" 1 ["some"] Fis_whole) : DefOk P w K mg base cl "is_street" 2 ["some"] Fis_street := by
  refine def_ok (k := 1) I cis_street fun f cdv A outer s H E hr => ?_
  have nd := cis_street.nd
  have tk : L2N.Takes (cxOf (L2N.CX P w) P w K mg base ["some"] "is_street" (defScope sis_street) f cdv A outer s H E) (fun c d _ H => E c d H)   := L2N.takes_of rfl rfl rfl rfl
  have hp : PassesOwn (model P w) (cxOf (L2N.CX P w) P w K mg base ["some"] "is_street" (defScope sis_street) f cdv A outer s H E).A (cxOf (L2N.CX P w) P w K mg base ["some"] "is_street" (defScope sis_street) f cdv A outer s H E).env (cxOf (L2N.CX P w) P w K mg base ["some"] "is_street" (defScope sis_street) f cdv A outer s H E).xe := passes_of rfl
  exact (qb_one (qs_ret (qe_and (qe_fn (Gis_whole.mono (by decide)) hr (by rfl) tk (qa_cons (qv 0) qa_nil)) (qe_one (qe_lelt qe_int (qv 0) (qe_gInt (by rfl) T.g_STREETS))))))
noncomputable abbrev sis_house : Stmt := topS 22
theorem cis_house : FnScope ["some"] ["some"] (defScope sis_house) := ⟨rfl, rfl, rfl, by decide +kernel, rfl, by decide +kernel, by decide +kernel⟩
noncomputable def bis_house : Stm := (sRet (eAndD (eFn Fis_whole [(eVar 0)]) (eCh leD leD (eC (.int 1)) (eVar 0) (eC (.int 596216567187872108348956733961803993280)))))
noncomputable def Fis_house : List D → Sto → Res D := runD .frz 1 bis_house
theorem kis_house (T : Bt K mg) (Ee : Er K mg cl) (I : DefIn K mg "is_house" sis_house ["some"]) (Gis_whole : DefOk P w K mg base cl "is_whole" 1 ["some"] Fis_whole) : DefOk P w K mg base cl "is_house" 2 ["some"] Fis_house := by
  refine def_ok (k := 1) I cis_house fun f cdv A outer s H E hr => ?_
  have nd := cis_house.nd
  have tk : L2N.Takes (cxOf (L2N.CX P w) P w K mg base ["some"] "is_house" (defScope sis_house) f cdv A outer s H E) (fun c d _ H => E c d H)   := L2N.takes_of rfl rfl rfl rfl
  have hp : PassesOwn (model P w) (cxOf (L2N.CX P w) P w K mg base ["some"] "is_house" (defScope sis_house) f cdv A outer s H E).A (cxOf (L2N.CX P w) P w K mg base ["some"] "is_house" (defScope sis_house) f cdv A outer s H E).env (cxOf (L2N.CX P w) P w K mg base ["some"] "is_house" (defScope sis_house) f cdv A outer s H E).xe := passes_of rfl
  exact (qb_one (qs_ret (qe_and (qe_fn (Gis_whole.mono (by decide)) hr (by rfl) tk (qa_cons (qv 0) qa_nil)) (qe_one (qe_lele qe_int (qv 0) (qe_gInt (by rfl) T.g_MOST_NUMBER))))))
noncomputable abbrev sis_address : Stmt := topS 23
theorem cis_address : FnScope ["some"] ["some"] (defScope sis_address) := ⟨rfl, rfl, rfl, by decide +kernel, rfl, by decide +kernel, by decide +kernel⟩
noncomputable def bis_address : Stm := (sRet (eAndD (e1 (isD "tuple") (eVar 0)) (eAndD (e2 (eqD false) (eCall lenD [(eVar 0)]) (eC (.int 2))) (eAndD (eFn Fis_street [(e2 ixD (eVar 0) (eC (.int 0)))]) (eFn Fis_house [(e2 ixD (eVar 0) (eC (.int 1)))])))))
noncomputable def Fis_address : List D → Sto → Res D := runD .frz 1 bis_address
theorem kis_address (T : Bt K mg) (Ee : Er K mg cl) (I : DefIn K mg "is_address" sis_address ["some"]) (Gis_street : DefOk P w K mg base cl "is_street" 2 ["some"] Fis_street) (Gis_house : DefOk P w K mg base cl "is_house" 2 ["some"] Fis_house) : DefOk P w K mg base cl "is_address" 3 ["some"] Fis_address := by
  refine def_ok (k := 2) I cis_address fun f cdv A outer s H E hr => ?_
  have nd := cis_address.nd
  have tk : L2N.Takes (cxOf (L2N.CX P w) P w K mg base ["some"] "is_address" (defScope sis_address) f cdv A outer s H E) (fun c d _ H => E c d H)   := L2N.takes_of rfl rfl rfl rfl
  have hp : PassesOwn (model P w) (cxOf (L2N.CX P w) P w K mg base ["some"] "is_address" (defScope sis_address) f cdv A outer s H E).A (cxOf (L2N.CX P w) P w K mg base ["some"] "is_address" (defScope sis_address) f cdv A outer s H E).env (cxOf (L2N.CX P w) P w K mg base ["some"] "is_address" (defScope sis_address) f cdv A outer s H E).xe := passes_of rfl
  exact (qb_one (qs_ret (qe_and (qe_is (T' := "tuple") (by decide) (by rfl) T.isinstance (by rfl) T.tuple (by decide +kernel) (qv 0)) (qe_and (qe_eq hr (qe_len (by rfl) T.len (qa_cons (qv 0) qa_nil)) qe_int) (qe_and (qe_fn (Gis_street.mono (by decide)) hr (by rfl) tk (qa_cons (qe_ix hr (qv 0) qe_int) qa_nil)) (qe_one (qe_fn (Gis_house.mono (by decide)) hr (by rfl) tk (qa_cons (qe_ix hr (qv 0) qe_int) qa_nil))))))))
noncomputable abbrev sis_reached : Stmt := topS 24
theorem cis_reached : FnScope ["first", "last", "step"] ["first", "last", "step"] (defScope sis_reached) := ⟨rfl, rfl, rfl, by decide +kernel, rfl, by decide +kernel, by decide +kernel⟩
noncomputable def bis_reached : Stm := (sRet (eAndD (e2 (eqD false) (e2 modD (e2 subD (eVar 1) (eVar 0)) (eVar 2)) (eC (.int 0))) (e2 geD (e2 fdivD (e2 subD (eVar 1) (eVar 0)) (eVar 2)) (eC (.int 0)))))
noncomputable def Fis_reached : List D → Sto → Res D := runD .frz 3 bis_reached
theorem kis_reached (T : Bt K mg) (Ee : Er K mg cl) (I : DefIn K mg "is_reached" sis_reached ["first", "last", "step"])  : DefOk P w K mg base cl "is_reached" 1 ["first", "last", "step"] Fis_reached := by
  refine def_ok (k := 0) I cis_reached fun f cdv A outer s H E hr => ?_
  have nd := cis_reached.nd
  have tk : L2N.Takes (cxOf (L2N.CX P w) P w K mg base ["first", "last", "step"] "is_reached" (defScope sis_reached) f cdv A outer s H E) (fun c d _ H => E c d H)   := L2N.takes_of rfl rfl rfl rfl
  have hp : PassesOwn (model P w) (cxOf (L2N.CX P w) P w K mg base ["first", "last", "step"] "is_reached" (defScope sis_reached) f cdv A outer s H E).A (cxOf (L2N.CX P w) P w K mg base ["first", "last", "step"] "is_reached" (defScope sis_reached) f cdv A outer s H E).env (cxOf (L2N.CX P w) P w K mg base ["first", "last", "step"] "is_reached" (defScope sis_reached) f cdv A outer s H E).xe := passes_of rfl
  exact (qb_one (qs_ret (qe_and (qe_eq hr (qe_mod (qe_sub (qv 1) (qv 0)) (qv 2)) qe_int) (qe_one (qe_ge (qe_fdiv (qe_sub (qv 1) (qv 0)) (qv 2)) qe_int)))))
noncomputable abbrev sis_run : Stmt := topS 25
theorem cis_run : FnScope ["some"] ["some"] (defScope sis_run) := ⟨rfl, rfl, rfl, by decide +kernel, rfl, by decide +kernel, by decide +kernel⟩
noncomputable def bis_run : Stm := (sSeq (sIf (tOrD (tNotD (eTr (e1 (isD "tuple") (eVar 0)))) (tOrD (eTB (e2 (eqD true) (eCall lenD [(eVar 0)]) (eC (.int 4)))) (tNotD (eTr (eFn Fis_street [(e2 ixD (eVar 0) (eC (.int 0)))]))))) (sRet (eC (.bl false))) sNext)
    (sSeq (sIf (tOrD (tNotD (eTr (eFn Fis_house [(e2 ixD (eVar 0) (eC (.int 1)))]))) (tOrD (tNotD (eTr (eFn Fis_house [(e2 ixD (eVar 0) (eC (.int 2)))]))) (tOrD (tNotD (eTr (eFn Fis_whole [(e2 ixD (eVar 0) (eC (.int 3)))]))) (eTB (e2 (inD true) (e2 ixD (eVar 0) (eC (.int 3))) (eC (.tup [.int 1, .int 2, .int (-1), .int (-2)]))))))) (sRet (eC (.bl false))) sNext)
    (sRet (eFn Fis_reached [(e2 ixD (eVar 0) (eC (.int 1))), (e2 ixD (eVar 0) (eC (.int 2))), (e2 ixD (eVar 0) (eC (.int 3)))]))))
noncomputable def Fis_run : List D → Sto → Res D := runD .frz 1 bis_run
theorem kis_run (T : Bt K mg) (Ee : Er K mg cl) (I : DefIn K mg "is_run" sis_run ["some"]) (Gis_reached : DefOk P w K mg base cl "is_reached" 1 ["first", "last", "step"] Fis_reached) (Gis_street : DefOk P w K mg base cl "is_street" 2 ["some"] Fis_street) (Gis_house : DefOk P w K mg base cl "is_house" 2 ["some"] Fis_house) (Gis_whole : DefOk P w K mg base cl "is_whole" 1 ["some"] Fis_whole) : DefOk P w K mg base cl "is_run" 3 ["some"] Fis_run := by
  refine def_ok (k := 2) I cis_run fun f cdv A outer s H E hr => ?_
  have nd := cis_run.nd
  have tk : L2N.Takes (cxOf (L2N.CX P w) P w K mg base ["some"] "is_run" (defScope sis_run) f cdv A outer s H E) (fun c d _ H => E c d H)   := L2N.takes_of rfl rfl rfl rfl
  have hp : PassesOwn (model P w) (cxOf (L2N.CX P w) P w K mg base ["some"] "is_run" (defScope sis_run) f cdv A outer s H E).A (cxOf (L2N.CX P w) P w K mg base ["some"] "is_run" (defScope sis_run) f cdv A outer s H E).env (cxOf (L2N.CX P w) P w K mg base ["some"] "is_run" (defScope sis_run) f cdv A outer s H E).xe := passes_of rfl
  exact (qb_cons (qs_if (PW.pt (qw_or (qt_not (qt_val (qe_is (T' := "tuple") (by decide) (by rfl) T.isinstance (by rfl) T.tuple (by decide +kernel) (qv 0)))) (qw_or (qt_ne hr (qe_len (by rfl) T.len (qa_cons (qv 0) qa_nil)) qe_int) (qw_or1 (qt_not (qt_val (qe_fn (Gis_street.mono (by decide)) hr (by rfl) tk (qa_cons (qe_ix hr (qv 0) qe_int) qa_nil)))))))) (qb_one (qs_ret qe_bl)) qb_nil)
    (qb_cons (qs_if (PW.pt (qw_or (qt_not (qt_val (qe_fn (Gis_house.mono (by decide)) hr (by rfl) tk (qa_cons (qe_ix hr (qv 0) qe_int) qa_nil)))) (qw_or (qt_not (qt_val (qe_fn (Gis_house.mono (by decide)) hr (by rfl) tk (qa_cons (qe_ix hr (qv 0) qe_int) qa_nil)))) (qw_or (qt_not (qt_val (qe_fn (Gis_whole.mono (by decide)) hr (by rfl) tk (qa_cons (qe_ix hr (qv 0) qe_int) qa_nil)))) (qw_or1 (qt_notIn hr (qe_ix hr (qv 0) qe_int) (qe_gTup (ns := [1, 2, (-1), (-2)]) (by rfl) T.g_STEPS))))))) (qb_one (qs_ret qe_bl)) qb_nil)
    (qb_one (qs_ret (qe_fn (Gis_reached.mono (by decide)) hr (by rfl) tk (qa_cons (qe_ix hr (qv 0) qe_int) (qa_cons (qe_ix hr (qv 0) qe_int) (qa_cons (qe_ix hr (qv 0) qe_int) qa_nil))))))))
noncomputable abbrev sshow_address : Stmt := topS 30
theorem cshow_address : FnScope ["one"] ["one"] (defScope sshow_address) := ⟨rfl, rfl, rfl, by decide +kernel, rfl, by decide +kernel, by decide +kernel⟩
noncomputable def bshow_address : Stm := (sRet (e2 addD (e2 addD (eCall strI [(e2 ixD (eVar 0) (eC (.int 0)))]) (eC (.str "."))) (eCall strI [(e2 ixD (eVar 0) (eC (.int 1)))])))
noncomputable def Fshow_address : List D → Sto → Res D := runD .frz 1 bshow_address
theorem kshow_address (T : Bt K mg) (Ee : Er K mg cl) (I : DefIn K mg "show_address" sshow_address ["one"])  : DefOk P w K mg base cl "show_address" 1 ["one"] Fshow_address := by
  refine def_ok (k := 0) I cshow_address fun f cdv A outer s H E hr => ?_
  have nd := cshow_address.nd
  have tk : L2N.Takes (cxOf (L2N.CX P w) P w K mg base ["one"] "show_address" (defScope sshow_address) f cdv A outer s H E) (fun c d _ H => E c d H)   := L2N.takes_of rfl rfl rfl rfl
  have hp : PassesOwn (model P w) (cxOf (L2N.CX P w) P w K mg base ["one"] "show_address" (defScope sshow_address) f cdv A outer s H E).A (cxOf (L2N.CX P w) P w K mg base ["one"] "show_address" (defScope sshow_address) f cdv A outer s H E).env (cxOf (L2N.CX P w) P w K mg base ["one"] "show_address" (defScope sshow_address) f cdv A outer s H E).xe := passes_of rfl
  exact (qb_one (qs_ret (qe_add (qe_add (qe_strI (by rfl) T.str (qa_cons (qe_ix hr (qv 0) qe_int) qa_nil)) qe_str) (qe_strI (by rfl) T.str (qa_cons (qe_ix hr (qv 0) qe_int) qa_nil)))))
noncomputable abbrev sshow_run : Stmt := topS 31
theorem cshow_run : FnScope ["one", "street", "first", "last", "step"] ["one"] (defScope sshow_run) := ⟨rfl, rfl, rfl, by decide +kernel, rfl, by decide +kernel, by decide +kernel⟩
noncomputable def bshow_run : Stm := (sSeq (sAsg (.tp [(.nm 1), (.nm 2), (.nm 3), (.nm 4)]) (eVar 0))
    (sRet (e2 addD (e2 addD (e2 addD (e2 addD (eFn Fshow_address [(eTup [(eVar 1), (eVar 2)])]) (eC (.str " to "))) (eCall strI [(eVar 3)])) (eC (.str " by "))) (eCall strI [(eVar 4)]))))
noncomputable def Fshow_run : List D → Sto → Res D := runD .frz 5 bshow_run
theorem kshow_run (T : Bt K mg) (Ee : Er K mg cl) (I : DefIn K mg "show_run" sshow_run ["one"]) (Gshow_address : DefOk P w K mg base cl "show_address" 1 ["one"] Fshow_address) : DefOk P w K mg base cl "show_run" 2 ["one"] Fshow_run := by
  refine def_ok (k := 1) I cshow_run fun f cdv A outer s H E hr => ?_
  have nd := cshow_run.nd
  have tk : L2N.Takes (cxOf (L2N.CX P w) P w K mg base ["one", "street", "first", "last", "step"] "show_run" (defScope sshow_run) f cdv A outer s H E) (fun c d _ H => E c d H)   := L2N.takes_of rfl rfl rfl rfl
  have hp : PassesOwn (model P w) (cxOf (L2N.CX P w) P w K mg base ["one", "street", "first", "last", "step"] "show_run" (defScope sshow_run) f cdv A outer s H E).A (cxOf (L2N.CX P w) P w K mg base ["one", "street", "first", "last", "step"] "show_run" (defScope sshow_run) f cdv A outer s H E).env (cxOf (L2N.CX P w) P w K mg base ["one", "street", "first", "last", "step"] "show_run" (defScope sshow_run) f cdv A outer s H E).xe := passes_of rfl
  exact (qb_cons (qs_asg (qv 0) (qg_tp rfl (qgs_cons (qg_nm nd rfl (by first | exact Or.inl rfl | exact Or.inr rfl)) (qgs_cons (qg_nm nd rfl (by first | exact Or.inl rfl | exact Or.inr rfl)) (qgs_cons (qg_nm nd rfl (by first | exact Or.inl rfl | exact Or.inr rfl)) (qgs_cons (qg_nm nd rfl (by first | exact Or.inl rfl | exact Or.inr rfl)) qgs_nil)))) rfl))
    (qb_one (qs_ret (qe_add (qe_add (qe_add (qe_add (qe_fn (Gshow_address.mono (by decide)) hr (by rfl) tk (qa_cons (qe_tup (qa_cons (qv 1) (qa_cons (qv 2) qa_nil))) qa_nil)) qe_str) (qe_strI (by rfl) T.str (qa_cons (qv 3) qa_nil))) qe_str) (qe_strI (by rfl) T.str (qa_cons (qv 4) qa_nil))))))
noncomputable abbrev sshow_walk : Stmt := topS 32
theorem cshow_walk : FnScope ["one", "run"] ["one"] (defScope sshow_walk) := ⟨rfl, rfl, rfl, by decide +kernel, rfl, by decide +kernel, by decide +kernel⟩
noncomputable def bshow_walk : Stm := (sRet (eIf (eTB (e2 (eqD true) (eVar 0) (eTup []))) (eM "str" joinD (eC (.str ", ")) [(eAno (nLc [1] (.nm 1) (iS (eVar 0)) tYesD (eFn Fshow_run [(eVar 1)])))]) (eC (.str "-"))))
noncomputable def Fshow_walk : List D → Sto → Res D := runD .frz 2 bshow_walk
theorem kshow_walk (T : Bt K mg) (Ee : Er K mg cl) (I : DefIn K mg "show_walk" sshow_walk ["one"]) (Gshow_run : DefOk P w K mg base cl "show_run" 2 ["one"] Fshow_run) : DefOk P w K mg base cl "show_walk" 3 ["one"] Fshow_walk := by
  refine def_ok (k := 2) I cshow_walk fun f cdv A outer s H E hr => ?_
  have nd := cshow_walk.nd
  have tk : L2N.Takes (cxOf (L2N.CX P w) P w K mg base ["one", "run"] "show_walk" (defScope sshow_walk) f cdv A outer s H E) (fun c d _ H => E c d H)   := L2N.takes_of rfl rfl rfl rfl
  have hp : PassesOwn (model P w) (cxOf (L2N.CX P w) P w K mg base ["one", "run"] "show_walk" (defScope sshow_walk) f cdv A outer s H E).A (cxOf (L2N.CX P w) P w K mg base ["one", "run"] "show_walk" (defScope sshow_walk) f cdv A outer s H E).env (cxOf (L2N.CX P w) P w K mg base ["one", "run"] "show_walk" (defScope sshow_walk) f cdv A outer s H E).xe := passes_of rfl
  exact (qb_one (qs_ret (qe_if (qt_ne hr (qv 0) (qe_tup qa_nil)) (qe_join qe_str (qe_ano (qn_lc (own := [("run", 1)]) rfl nd (qi_s (qv 0)) (blkOk_by (by rfl)) (by decide) (fun _ _ _ _ _ => (qg_nm nd rfl (by first | exact Or.inl rfl | exact Or.inr rfl))) (fun _ _ _ _ _ => qts_nil) (fun _ _ _ _ _ => (qe_fn (Gshow_run.mono (by decide)) hr (by rfl) takesN (qa_cons (qv 1) qa_nil)))))) (qe_gStr (by rfl) T.g_NO_RUNS))))
noncomputable abbrev sshow_book : Stmt := topS 33
theorem cshow_book : FnScope ["one", "walk"] ["one"] (defScope sshow_book) := ⟨rfl, rfl, rfl, by decide +kernel, rfl, by decide +kernel, by decide +kernel⟩
noncomputable def bshow_book : Stm := (sRet (eIf (eTB (e2 (eqD true) (eVar 0) (eTup []))) (eM "str" joinD (eC (.str "; ")) [(eAno (nLc [1] (.nm 1) (iS (eVar 0)) tYesD (eFn Fshow_walk [(eVar 1)])))]) (eC (.str "none"))))
noncomputable def Fshow_book : List D → Sto → Res D := runD .frz 2 bshow_book
theorem kshow_book (T : Bt K mg) (Ee : Er K mg cl) (I : DefIn K mg "show_book" sshow_book ["one"]) (Gshow_walk : DefOk P w K mg base cl "show_walk" 3 ["one"] Fshow_walk) : DefOk P w K mg base cl "show_book" 4 ["one"] Fshow_book := by
  refine def_ok (k := 3) I cshow_book fun f cdv A outer s H E hr => ?_
  have nd := cshow_book.nd
  have tk : L2N.Takes (cxOf (L2N.CX P w) P w K mg base ["one", "walk"] "show_book" (defScope sshow_book) f cdv A outer s H E) (fun c d _ H => E c d H)   := L2N.takes_of rfl rfl rfl rfl
  have hp : PassesOwn (model P w) (cxOf (L2N.CX P w) P w K mg base ["one", "walk"] "show_book" (defScope sshow_book) f cdv A outer s H E).A (cxOf (L2N.CX P w) P w K mg base ["one", "walk"] "show_book" (defScope sshow_book) f cdv A outer s H E).env (cxOf (L2N.CX P w) P w K mg base ["one", "walk"] "show_book" (defScope sshow_book) f cdv A outer s H E).xe := passes_of rfl
  exact (qb_one (qs_ret (qe_if (qt_ne hr (qv 0) (qe_tup qa_nil)) (qe_join qe_str (qe_ano (qn_lc (own := [("walk", 1)]) rfl nd (qi_s (qv 0)) (blkOk_by (by rfl)) (by decide) (fun _ _ _ _ _ => (qg_nm nd rfl (by first | exact Or.inl rfl | exact Or.inr rfl))) (fun _ _ _ _ _ => qts_nil) (fun _ _ _ _ _ => (qe_fn (Gshow_walk.mono (by decide)) hr (by rfl) takesN (qa_cons (qv 1) qa_nil)))))) (qe_gStr (by rfl) T.g_NOTHING))))
noncomputable abbrev smust : Stmt := topS 34
theorem cmust : FnScope ["right"] ["right"] (defScope smust) := ⟨rfl, rfl, rfl, by decide +kernel, rfl, by decide +kernel, by decide +kernel⟩
noncomputable def bmust : Stm := (sIf (tNotD (eTr (eVar 0))) (sRaise "NoText") sNext)
noncomputable def Fmust : List D → Sto → Res D := runD .frz 1 bmust
theorem kmust (T : Bt K mg) (Ee : Er K mg cl) (I : DefIn K mg "must" smust ["right"])  : DefOk P w K mg base cl "must" 1 ["right"] Fmust := by
  refine def_ok (k := 0) I cmust fun f cdv A outer s H E hr => ?_
  have nd := cmust.nd
  have tk : L2N.Takes (cxOf (L2N.CX P w) P w K mg base ["right"] "must" (defScope smust) f cdv A outer s H E) (fun c d _ H => E c d H)   := L2N.takes_of rfl rfl rfl rfl
  have hp : PassesOwn (model P w) (cxOf (L2N.CX P w) P w K mg base ["right"] "must" (defScope smust) f cdv A outer s H E).A (cxOf (L2N.CX P w) P w K mg base ["right"] "must" (defScope smust) f cdv A outer s H E).env (cxOf (L2N.CX P w) P w K mg base ["right"] "must" (defScope smust) f cdv A outer s H E).xe := passes_of rfl
  exact (qb_one (qs_if (qt_not (qt_val (qv 0))) (qb_one (qs_raise rfl tk Ee.c_NoText (by rfl))) qb_nil))
noncomputable abbrev smust_be_text : Stmt := topS 35
theorem cmust_be_text : FnScope ["some"] ["some"] (defScope smust_be_text) := ⟨rfl, rfl, rfl, by decide +kernel, rfl, by decide +kernel, by decide +kernel⟩
noncomputable def bmust_be_text : Stm := (sExpr (eFn Fmust [(e1 (isD "str") (eVar 0))]))
noncomputable def Fmust_be_text : List D → Sto → Res D := runD .frz 1 bmust_be_text
theorem kmust_be_text (T : Bt K mg) (Ee : Er K mg cl) (I : DefIn K mg "must_be_text" smust_be_text ["some"]) (Gmust : DefOk P w K mg base cl "must" 1 ["right"] Fmust) : DefOk P w K mg base cl "must_be_text" 2 ["some"] Fmust_be_text := by
  refine def_ok (k := 1) I cmust_be_text fun f cdv A outer s H E hr => ?_
  have nd := cmust_be_text.nd
  have tk : L2N.Takes (cxOf (L2N.CX P w) P w K mg base ["some"] "must_be_text" (defScope smust_be_text) f cdv A outer s H E) (fun c d _ H => E c d H)   := L2N.takes_of rfl rfl rfl rfl
  have hp : PassesOwn (model P w) (cxOf (L2N.CX P w) P w K mg base ["some"] "must_be_text" (defScope smust_be_text) f cdv A outer s H E).A (cxOf (L2N.CX P w) P w K mg base ["some"] "must_be_text" (defScope smust_be_text) f cdv A outer s H E).env (cxOf (L2N.CX P w) P w K mg base ["some"] "must_be_text" (defScope smust_be_text) f cdv A outer s H E).xe := passes_of rfl
  exact (qb_one (qs_expr (qe_fn (Gmust.mono (by decide)) hr (by rfl) tk (qa_cons (qe_is (T' := "str") (by decide) (by rfl) T.isinstance (by rfl) T.str (by decide +kernel) (qv 0)) qa_nil))))
noncomputable abbrev swhole_in : Stmt := topS 36
theorem cwhole_in : FnScope ["text", "digits", "sign"] ["text"] (defScope swhole_in) := ⟨rfl, rfl, rfl, by decide +kernel, rfl, by decide +kernel, by decide +kernel⟩
noncomputable def bwhole_in : Stm := (sSeq (sSet 1 (eIf (eTB (e2 (eqD false) (eSl (eVar 0) pN (pE (eC (.int 1)))) (eC (.str "-")))) (eSl (eVar 0) (pE (eC (.int 1))) pN) (eVar 0)))
    (sSeq (sExpr (eFn Fmust [(eAndD (e2 (eqD true) (eVar 1) (eC (.str ""))) (eCall (boolsD fun bs => bs.all id) [(eAno (nLc [2] (.nm 2) (iTx (eVar 1)) tYesD (e2 (inD false) (eVar 2) (eC (.str "0123456789")))))]))]))
    (sSeq (sExpr (eFn Fmust [(eOrD (e2 (eqD true) (e2 ixD (eVar 1) (eC (.int 0))) (eC (.str "0"))) (e2 (eqD false) (eVar 0) (eC (.str "0"))))]))
    (sRet (eCall intT [(eVar 0)])))))
noncomputable def Fwhole_in : List D → Sto → Res D := runD .frz 3 bwhole_in
theorem kwhole_in (T : Bt K mg) (Ee : Er K mg cl) (I : DefIn K mg "whole_in" swhole_in ["text"]) (Gmust : DefOk P w K mg base cl "must" 1 ["right"] Fmust) : DefOk P w K mg base cl "whole_in" 2 ["text"] Fwhole_in := by
  refine def_ok (k := 1) I cwhole_in fun f cdv A outer s H E hr => ?_
  have nd := cwhole_in.nd
  have tk : L2N.Takes (cxOf (L2N.CX P w) P w K mg base ["text", "digits", "sign"] "whole_in" (defScope swhole_in) f cdv A outer s H E) (fun c d _ H => E c d H)   := L2N.takes_of rfl rfl rfl rfl
  have hp : PassesOwn (model P w) (cxOf (L2N.CX P w) P w K mg base ["text", "digits", "sign"] "whole_in" (defScope swhole_in) f cdv A outer s H E).A (cxOf (L2N.CX P w) P w K mg base ["text", "digits", "sign"] "whole_in" (defScope swhole_in) f cdv A outer s H E).env (cxOf (L2N.CX P w) P w K mg base ["text", "digits", "sign"] "whole_in" (defScope swhole_in) f cdv A outer s H E).xe := passes_of rfl
  exact (qb_cons (qs_set nd rfl (by first | exact Or.inl rfl | exact Or.inr rfl) (qe_if (qt_eq hr (qe_sl (qv 0) qp_n (qp_e qe_int)) qe_str) (qe_sl (qv 0) (qp_e qe_int) qp_n) (qv 0)))
    (qb_cons (qs_expr (qe_fn (Gmust.mono (by decide)) hr (by rfl) tk (qa_cons (qe_and (qe_ne hr (qv 1) qe_str) (qe_one (qe_all rfl (by rfl) T.all (qa_cons (qe_ano (qn_lc (own := [("sign", 2)]) rfl nd (qi_tx (qv 1)) (blkOk_by (by rfl)) (by decide) (fun _ _ _ _ _ => (qg_nm nd rfl (by first | exact Or.inl rfl | exact Or.inr rfl))) (fun _ _ _ _ _ => qts_nil) (fun _ _ _ _ _ => (qe_in hr (qv 2) (qe_gStr (by rfl) T.g_DIGITS))))) qa_nil)))) qa_nil)))
    (qb_cons (qs_expr (qe_fn (Gmust.mono (by decide)) hr (by rfl) tk (qa_cons (qe_or (qe_ne hr (qe_ix hr (qv 1) qe_int) qe_str) (qe_one (qe_eq hr (qv 0) qe_str))) qa_nil)))
    (qb_one (qs_ret (qe_intT (by rfl) T.int (qa_cons (qv 0) qa_nil)))))))
noncomputable abbrev spair_in : Stmt := topS 37
theorem cpair_in : FnScope ["text", "sign", "words"] ["text", "sign"] (defScope spair_in) := ⟨rfl, rfl, rfl, by decide +kernel, rfl, by decide +kernel, by decide +kernel⟩
noncomputable def bpair_in : Stm := (sSeq (sSet 2 (eAno (nSplit (eVar 0) (eVar 1))))
    (sSeq (sExpr (eFn Fmust [(e2 (eqD false) (eCall lenD [(eVar 2)]) (eC (.int 2)))]))
    (sRet (eTup [(eFn Fwhole_in [(e2 ixD (eVar 2) (eC (.int 0)))]), (eFn Fwhole_in [(e2 ixD (eVar 2) (eC (.int 1)))])]))))
noncomputable def Fpair_in : List D → Sto → Res D := runD .frz 3 bpair_in
theorem kpair_in (T : Bt K mg) (Ee : Er K mg cl) (I : DefIn K mg "pair_in" spair_in ["text", "sign"]) (Gmust : DefOk P w K mg base cl "must" 1 ["right"] Fmust) (Gwhole_in : DefOk P w K mg base cl "whole_in" 2 ["text"] Fwhole_in) : DefOk P w K mg base cl "pair_in" 3 ["text", "sign"] Fpair_in := by
  refine def_ok (k := 2) I cpair_in fun f cdv A outer s H E hr => ?_
  have nd := cpair_in.nd
  have tk : L2N.Takes (cxOf (L2N.CX P w) P w K mg base ["text", "sign", "words"] "pair_in" (defScope spair_in) f cdv A outer s H E) (fun c d _ H => E c d H)   := L2N.takes_of rfl rfl rfl rfl
  have hp : PassesOwn (model P w) (cxOf (L2N.CX P w) P w K mg base ["text", "sign", "words"] "pair_in" (defScope spair_in) f cdv A outer s H E).A (cxOf (L2N.CX P w) P w K mg base ["text", "sign", "words"] "pair_in" (defScope spair_in) f cdv A outer s H E).env (cxOf (L2N.CX P w) P w K mg base ["text", "sign", "words"] "pair_in" (defScope spair_in) f cdv A outer s H E).xe := passes_of rfl
  exact (qb_cons (qs_set nd rfl (by first | exact Or.inl rfl | exact Or.inr rfl) (qe_ano (qn_split (qv 0) (qv 1))))
    (qb_cons (qs_expr (qe_fn (Gmust.mono (by decide)) hr (by rfl) tk (qa_cons (qe_eq hr (qe_len (by rfl) T.len (qa_cons (qv 2) qa_nil)) qe_int) qa_nil)))
    (qb_one (qs_ret (qe_tup (qa_cons (qe_fn (Gwhole_in.mono (by decide)) hr (by rfl) tk (qa_cons (qe_ix hr (qv 2) qe_int) qa_nil)) (qa_cons (qe_fn (Gwhole_in.mono (by decide)) hr (by rfl) tk (qa_cons (qe_ix hr (qv 2) qe_int) qa_nil)) qa_nil)))))))
noncomputable abbrev saddress_in : Stmt := topS 38
theorem caddress_in : FnScope ["text", "found"] ["text"] (defScope saddress_in) := ⟨rfl, rfl, rfl, by decide +kernel, rfl, by decide +kernel, by decide +kernel⟩
noncomputable def baddress_in : Stm := (sSeq (sSet 1 (eFn Fpair_in [(eVar 0), (eC (.str "."))]))
    (sSeq (sExpr (eFn Fmust [(eFn Fis_address [(eVar 1)])]))
    (sRet (eVar 1))))
noncomputable def Faddress_in : List D → Sto → Res D := runD .frz 2 baddress_in
theorem kaddress_in (T : Bt K mg) (Ee : Er K mg cl) (I : DefIn K mg "address_in" saddress_in ["text"]) (Gpair_in : DefOk P w K mg base cl "pair_in" 3 ["text", "sign"] Fpair_in) (Gmust : DefOk P w K mg base cl "must" 1 ["right"] Fmust) (Gis_address : DefOk P w K mg base cl "is_address" 3 ["some"] Fis_address) : DefOk P w K mg base cl "address_in" 4 ["text"] Faddress_in := by
  refine def_ok (k := 3) I caddress_in fun f cdv A outer s H E hr => ?_
  have nd := caddress_in.nd
  have tk : L2N.Takes (cxOf (L2N.CX P w) P w K mg base ["text", "found"] "address_in" (defScope saddress_in) f cdv A outer s H E) (fun c d _ H => E c d H)   := L2N.takes_of rfl rfl rfl rfl
  have hp : PassesOwn (model P w) (cxOf (L2N.CX P w) P w K mg base ["text", "found"] "address_in" (defScope saddress_in) f cdv A outer s H E).A (cxOf (L2N.CX P w) P w K mg base ["text", "found"] "address_in" (defScope saddress_in) f cdv A outer s H E).env (cxOf (L2N.CX P w) P w K mg base ["text", "found"] "address_in" (defScope saddress_in) f cdv A outer s H E).xe := passes_of rfl
  exact (qb_cons (qs_set nd rfl (by first | exact Or.inl rfl | exact Or.inr rfl) (qe_fn (Gpair_in.mono (by decide)) hr (by rfl) tk (qa_cons (qv 0) (qa_cons qe_str qa_nil))))
    (qb_cons (qs_expr (qe_fn (Gmust.mono (by decide)) hr (by rfl) tk (qa_cons (qe_fn (Gis_address.mono (by decide)) hr (by rfl) tk (qa_cons (qv 1) qa_nil)) qa_nil)))
    (qb_one (qs_ret (qv 1)))))
noncomputable abbrev srun_in : Stmt := topS 39
theorem crun_in : FnScope ["text", "words", "found"] ["text"] (defScope srun_in) := ⟨rfl, rfl, rfl, by decide +kernel, rfl, by decide +kernel, by decide +kernel⟩
noncomputable def brun_in : Stm := (sSeq (sSet 1 (eAno (nSplit (eVar 0) (eC (.str " ")))))
    (sSeq (sExpr (eFn Fmust [(eAndD (e2 (eqD false) (eCall lenD [(eVar 1)]) (eC (.int 5))) (eAndD (e2 (eqD false) (e2 ixD (eVar 1) (eC (.int 1))) (eC (.str "to"))) (e2 (eqD false) (e2 ixD (eVar 1) (eC (.int 3))) (eC (.str "by")))))]))
    (sSeq (sSet 2 (e2 addD (eFn Fpair_in [(e2 ixD (eVar 1) (eC (.int 0))), (eC (.str "."))]) (eTup [(eFn Fwhole_in [(e2 ixD (eVar 1) (eC (.int 2)))]), (eFn Fwhole_in [(e2 ixD (eVar 1) (eC (.int 4)))])])))
    (sSeq (sExpr (eFn Fmust [(eFn Fis_run [(eVar 2)])]))
    (sRet (eVar 2))))))
noncomputable def Frun_in : List D → Sto → Res D := runD .frz 3 brun_in
theorem krun_in (T : Bt K mg) (Ee : Er K mg cl) (I : DefIn K mg "run_in" srun_in ["text"]) (Gmust : DefOk P w K mg base cl "must" 1 ["right"] Fmust) (Gpair_in : DefOk P w K mg base cl "pair_in" 3 ["text", "sign"] Fpair_in) (Gis_run : DefOk P w K mg base cl "is_run" 3 ["some"] Fis_run) (Gwhole_in : DefOk P w K mg base cl "whole_in" 2 ["text"] Fwhole_in) : DefOk P w K mg base cl "run_in" 4 ["text"] Frun_in := by
  refine def_ok (k := 3) I crun_in fun f cdv A outer s H E hr => ?_
  have nd := crun_in.nd
  have tk : L2N.Takes (cxOf (L2N.CX P w) P w K mg base ["text", "words", "found"] "run_in" (defScope srun_in) f cdv A outer s H E) (fun c d _ H => E c d H)   := L2N.takes_of rfl rfl rfl rfl
  have hp : PassesOwn (model P w) (cxOf (L2N.CX P w) P w K mg base ["text", "words", "found"] "run_in" (defScope srun_in) f cdv A outer s H E).A (cxOf (L2N.CX P w) P w K mg base ["text", "words", "found"] "run_in" (defScope srun_in) f cdv A outer s H E).env (cxOf (L2N.CX P w) P w K mg base ["text", "words", "found"] "run_in" (defScope srun_in) f cdv A outer s H E).xe := passes_of rfl
  exact (qb_cons (qs_set nd rfl (by first | exact Or.inl rfl | exact Or.inr rfl) (qe_ano (qn_split (qv 0) qe_str)))
    (qb_cons (qs_expr (qe_fn (Gmust.mono (by decide)) hr (by rfl) tk (qa_cons (qe_and (qe_eq hr (qe_len (by rfl) T.len (qa_cons (qv 1) qa_nil)) qe_int) (qe_and (qe_eq hr (qe_ix hr (qv 1) qe_int) qe_str) (qe_one (qe_eq hr (qe_ix hr (qv 1) qe_int) qe_str)))) qa_nil)))
    (qb_cons (qs_set nd rfl (by first | exact Or.inl rfl | exact Or.inr rfl) (qe_add (qe_fn (Gpair_in.mono (by decide)) hr (by rfl) tk (qa_cons (qe_ix hr (qv 1) qe_int) (qa_cons qe_str qa_nil))) (qe_tup (qa_cons (qe_fn (Gwhole_in.mono (by decide)) hr (by rfl) tk (qa_cons (qe_ix hr (qv 1) qe_int) qa_nil)) (qa_cons (qe_fn (Gwhole_in.mono (by decide)) hr (by rfl) tk (qa_cons (qe_ix hr (qv 1) qe_int) qa_nil)) qa_nil)))))
    (qb_cons (qs_expr (qe_fn (Gmust.mono (by decide)) hr (by rfl) tk (qa_cons (qe_fn (Gis_run.mono (by decide)) hr (by rfl) tk (qa_cons (qv 2) qa_nil)) qa_nil)))
    (qb_one (qs_ret (qv 2)))))))
noncomputable abbrev swalk_in : Stmt := topS 40
theorem cwalk_in : FnScope ["text", "word"] ["text"] (defScope swalk_in) := ⟨rfl, rfl, rfl, by decide +kernel, rfl, by decide +kernel, by decide +kernel⟩
noncomputable def bwalk_in : Stm := (sSeq (sIf (eTB (e2 (eqD false) (eVar 0) (eC (.str "-")))) (sRet (eTup [])) sNext)
    (sRet (eCall tupD [(eAno (nLcX [1] (.nm 1) (iS (eAno (nSplit (eVar 0) (eC (.str ", "))))) tYesD (eFn Frun_in [(eVar 1)])))])))
noncomputable def Fwalk_in : List D → Sto → Res D := runD .frz 2 bwalk_in
theorem kwalk_in (T : Bt K mg) (Ee : Er K mg cl) (I : DefIn K mg "walk_in" swalk_in ["text"]) (Grun_in : DefOk P w K mg base cl "run_in" 4 ["text"] Frun_in) : DefOk P w K mg base cl "walk_in" 5 ["text"] Fwalk_in := by
  refine def_ok (k := 4) I cwalk_in fun f cdv A outer s H E hr => ?_
  have nd := cwalk_in.nd
  have tk : L2N.Takes (cxOf (L2N.CX P w) P w K mg base ["text", "word"] "walk_in" (defScope swalk_in) f cdv A outer s H E) (fun c d _ H => E c d H)   := L2N.takes_of rfl rfl rfl rfl
  have hp : PassesOwn (model P w) (cxOf (L2N.CX P w) P w K mg base ["text", "word"] "walk_in" (defScope swalk_in) f cdv A outer s H E).A (cxOf (L2N.CX P w) P w K mg base ["text", "word"] "walk_in" (defScope swalk_in) f cdv A outer s H E).env (cxOf (L2N.CX P w) P w K mg base ["text", "word"] "walk_in" (defScope swalk_in) f cdv A outer s H E).xe := passes_of rfl
  exact (qb_cons (qs_if (qt_eq hr (qv 0) (qe_gStr (by rfl) T.g_NO_RUNS)) (qb_one (qs_ret (qe_tup qa_nil))) qb_nil)
    (qb_one (qs_ret (qe_tuple (by rfl) T.tuple (qa_cons (qe_ano (qn_lcX (own := [("word", 1)]) rfl rfl tk rfl nd (qi_s (qe_ano (qn_split (qv 0) qe_str))) (blkOk_by (by rfl)) (by decide) (fun _ _ _ _ _ _ => (qg_nm nd rfl (by first | exact Or.inl rfl | exact Or.inr rfl))) (fun _ _ _ _ _ _ => qts_nil) (fun _ _ _ _ _ xe W0 tk => (qe_fn (Grun_in.mono (by decide)) hr (by rfl) tk (qa_cons (qv 1) qa_nil))))) qa_nil)))))
noncomputable abbrev sread_address : Stmt := topS 41
theorem cread_address : FnScope ["text"] ["text"] (defScope sread_address) := ⟨rfl, rfl, rfl, by decide +kernel, rfl, by decide +kernel, by decide +kernel⟩
noncomputable def bread_address : Stm := (sSeq (sExpr (eFn Fmust_be_text [(eVar 0)]))
    (sRet (eFn Faddress_in [(eVar 0)])))
noncomputable def Fread_address : List D → Sto → Res D := runD .frz 1 bread_address
theorem kread_address (T : Bt K mg) (Ee : Er K mg cl) (I : DefIn K mg "read_address" sread_address ["text"]) (Gmust_be_text : DefOk P w K mg base cl "must_be_text" 2 ["some"] Fmust_be_text) (Gaddress_in : DefOk P w K mg base cl "address_in" 4 ["text"] Faddress_in) : DefOk P w K mg base cl "read_address" 5 ["text"] Fread_address := by
  refine def_ok (k := 4) I cread_address fun f cdv A outer s H E hr => ?_
  have nd := cread_address.nd
  have tk : L2N.Takes (cxOf (L2N.CX P w) P w K mg base ["text"] "read_address" (defScope sread_address) f cdv A outer s H E) (fun c d _ H => E c d H)   := L2N.takes_of rfl rfl rfl rfl
  have hp : PassesOwn (model P w) (cxOf (L2N.CX P w) P w K mg base ["text"] "read_address" (defScope sread_address) f cdv A outer s H E).A (cxOf (L2N.CX P w) P w K mg base ["text"] "read_address" (defScope sread_address) f cdv A outer s H E).env (cxOf (L2N.CX P w) P w K mg base ["text"] "read_address" (defScope sread_address) f cdv A outer s H E).xe := passes_of rfl
  exact (qb_cons (qs_expr (qe_fn (Gmust_be_text.mono (by decide)) hr (by rfl) tk (qa_cons (qv 0) qa_nil)))
    (qb_one (qs_ret (qe_fn (Gaddress_in.mono (by decide)) hr (by rfl) tk (qa_cons (qv 0) qa_nil)))))
noncomputable abbrev sread_run : Stmt := topS 42
theorem cread_run : FnScope ["text"] ["text"] (defScope sread_run) := ⟨rfl, rfl, rfl, by decide +kernel, rfl, by decide +kernel, by decide +kernel⟩
noncomputable def bread_run : Stm := (sSeq (sExpr (eFn Fmust_be_text [(eVar 0)]))
    (sRet (eFn Frun_in [(eVar 0)])))
noncomputable def Fread_run : List D → Sto → Res D := runD .frz 1 bread_run
theorem kread_run (T : Bt K mg) (Ee : Er K mg cl) (I : DefIn K mg "read_run" sread_run ["text"]) (Gmust_be_text : DefOk P w K mg base cl "must_be_text" 2 ["some"] Fmust_be_text) (Grun_in : DefOk P w K mg base cl "run_in" 4 ["text"] Frun_in) : DefOk P w K mg base cl "read_run" 5 ["text"] Fread_run := by
  refine def_ok (k := 4) I cread_run fun f cdv A outer s H E hr => ?_
  have nd := cread_run.nd
  have tk : L2N.Takes (cxOf (L2N.CX P w) P w K mg base ["text"] "read_run" (defScope sread_run) f cdv A outer s H E) (fun c d _ H => E c d H)   := L2N.takes_of rfl rfl rfl rfl
  have hp : PassesOwn (model P w) (cxOf (L2N.CX P w) P w K mg base ["text"] "read_run" (defScope sread_run) f cdv A outer s H E).A (cxOf (L2N.CX P w) P w K mg base ["text"] "read_run" (defScope sread_run) f cdv A outer s H E).env (cxOf (L2N.CX P w) P w K mg base ["text"] "read_run" (defScope sread_run) f cdv A outer s H E).xe := passes_of rfl
  exact (qb_cons (qs_expr (qe_fn (Gmust_be_text.mono (by decide)) hr (by rfl) tk (qa_cons (qv 0) qa_nil)))
    (qb_one (qs_ret (qe_fn (Grun_in.mono (by decide)) hr (by rfl) tk (qa_cons (qv 0) qa_nil)))))
noncomputable abbrev sread_walk : Stmt := topS 43
theorem cread_walk : FnScope ["text"] ["text"] (defScope sread_walk) := ⟨rfl, rfl, rfl, by decide +kernel, rfl, by decide +kernel, by decide +kernel⟩
noncomputable def bread_walk : Stm := (sSeq (sExpr (eFn Fmust_be_text [(eVar 0)]))
    (sRet (eFn Fwalk_in [(eVar 0)])))
noncomputable def Fread_walk : List D → Sto → Res D := runD .frz 1 bread_walk
theorem kread_walk (T : Bt K mg) (Ee : Er K mg cl) (I : DefIn K mg "read_walk" sread_walk ["text"]) (Gmust_be_text : DefOk P w K mg base cl "must_be_text" 2 ["some"] Fmust_be_text) (Gwalk_in : DefOk P w K mg base cl "walk_in" 5 ["text"] Fwalk_in) : DefOk P w K mg base cl "read_walk" 6 ["text"] Fread_walk := by
  refine def_ok (k := 5) I cread_walk fun f cdv A outer s H E hr => ?_
  have nd := cread_walk.nd
  have tk : L2N.Takes (cxOf (L2N.CX P w) P w K mg base ["text"] "read_walk" (defScope sread_walk) f cdv A outer s H E) (fun c d _ H => E c d H)   := L2N.takes_of rfl rfl rfl rfl
  have hp : PassesOwn (model P w) (cxOf (L2N.CX P w) P w K mg base ["text"] "read_walk" (defScope sread_walk) f cdv A outer s H E).A (cxOf (L2N.CX P w) P w K mg base ["text"] "read_walk" (defScope sread_walk) f cdv A outer s H E).env (cxOf (L2N.CX P w) P w K mg base ["text"] "read_walk" (defScope sread_walk) f cdv A outer s H E).xe := passes_of rfl
  exact (qb_cons (qs_expr (qe_fn (Gmust_be_text.mono (by decide)) hr (by rfl) tk (qa_cons (qv 0) qa_nil)))
    (qb_one (qs_ret (qe_fn (Gwalk_in.mono (by decide)) hr (by rfl) tk (qa_cons (qv 0) qa_nil)))))
noncomputable abbrev sread_book : Stmt := topS 44
theorem cread_book : FnScope ["text", "word"] ["text"] (defScope sread_book) := ⟨rfl, rfl, rfl, by decide +kernel, rfl, by decide +kernel, by decide +kernel⟩
noncomputable def bread_book : Stm := (sSeq (sExpr (eFn Fmust_be_text [(eVar 0)]))
    (sSeq (sIf (eTB (e2 (eqD false) (eVar 0) (eC (.str "none")))) (sRet (eTup [])) sNext)
    (sRet (eCall tupD [(eAno (nLcX [1] (.nm 1) (iS (eAno (nSplit (eVar 0) (eC (.str "; "))))) tYesD (eFn Fwalk_in [(eVar 1)])))]))))
noncomputable def Fread_book : List D → Sto → Res D := runD .frz 2 bread_book
theorem kread_book (T : Bt K mg) (Ee : Er K mg cl) (I : DefIn K mg "read_book" sread_book ["text"]) (Gmust_be_text : DefOk P w K mg base cl "must_be_text" 2 ["some"] Fmust_be_text) (Gwalk_in : DefOk P w K mg base cl "walk_in" 5 ["text"] Fwalk_in) : DefOk P w K mg base cl "read_book" 6 ["text"] Fread_book := by
  refine def_ok (k := 5) I cread_book fun f cdv A outer s H E hr => ?_
  have nd := cread_book.nd
  have tk : L2N.Takes (cxOf (L2N.CX P w) P w K mg base ["text", "word"] "read_book" (defScope sread_book) f cdv A outer s H E) (fun c d _ H => E c d H)   := L2N.takes_of rfl rfl rfl rfl
  have hp : PassesOwn (model P w) (cxOf (L2N.CX P w) P w K mg base ["text", "word"] "read_book" (defScope sread_book) f cdv A outer s H E).A (cxOf (L2N.CX P w) P w K mg base ["text", "word"] "read_book" (defScope sread_book) f cdv A outer s H E).env (cxOf (L2N.CX P w) P w K mg base ["text", "word"] "read_book" (defScope sread_book) f cdv A outer s H E).xe := passes_of rfl
  exact (qb_cons (qs_expr (qe_fn (Gmust_be_text.mono (by decide)) hr (by rfl) tk (qa_cons (qv 0) qa_nil)))
    (qb_cons (qs_if (qt_eq hr (qv 0) (qe_gStr (by rfl) T.g_NOTHING)) (qb_one (qs_ret (qe_tup qa_nil))) qb_nil)
    (qb_one (qs_ret (qe_tuple (by rfl) T.tuple (qa_cons (qe_ano (qn_lcX (own := [("word", 1)]) rfl rfl tk rfl nd (qi_s (qe_ano (qn_split (qv 0) qe_str))) (blkOk_by (by rfl)) (by decide) (fun _ _ _ _ _ _ => (qg_nm nd rfl (by first | exact Or.inl rfl | exact Or.inr rfl))) (fun _ _ _ _ _ _ => qts_nil) (fun _ _ _ _ _ xe W0 tk => (qe_fn (Gwalk_in.mono (by decide)) hr (by rfl) tk (qa_cons (qv 1) qa_nil))))) qa_nil))))))
noncomputable abbrev s_law_purse : Stmt := topS 46
theorem c_law_purse : FnScope ["_law_script", "_law_at", "_law_cell", "_law_mix", "_law_k"] ["_law_script", "_law_at"] (defScope s_law_purse) := ⟨rfl, rfl, rfl, by decide +kernel, rfl, by decide +kernel, by decide +kernel⟩
noncomputable def b_law_purse_1 : Stm := (sSet 3 (e2 modD (e2 addD (e2 addD (e2 powD (eVar 3) (eC (.int 3))) (e2 modD (e2 ixD (eVar 0) (eVar 4)) (eC (.int 1000000007)))) (eVar 4)) (eC (.int 2147483629))))
noncomputable def b_law_purse : Stm := (sSeq (sSet 2 (eC (.int 0)))
    (sSeq (sIf (eTB (e2 ltD (eVar 1) (eCall lenD [(eVar 0)]))) (sSet 2 (eCall absD [(e2 ixD (eVar 0) (eVar 1))])) sNext)
    (sSeq (sSet 3 (e2 addD (eC (.int 7919)) (e2 mulD (eC (.int 31)) (eVar 1))))
    (sSeq (sFgt [4] (sFor [4] (.nm 4) (iR1 (eCall (ii2D minI) [(eCall lenD [(eVar 0)]), (eC (.int 40))])) b_law_purse_1))
    (sSeq (sIf (eTB (e2 ltD (eVar 2) (e2 powD (eC (.int 10)) (eC (.int 18))))) (sSet 2 (e2 powD (eC (.int 10)) (eC (.int 18)))) sNext)
    (sRet (eNew (nLst [(e2 subD (eVar 2) (e2 powD (eC (.int 10)) (eC (.int 18)))), (eVar 3), (e2 modD (eVar 1) (eC (.int 11)))]))))))))
noncomputable def F_law_purse : List D → Sto → Res D := runD .new 5 b_law_purse
theorem k_law_purse (T : Bt K mg) (Ee : Er K mg cl) (I : DefIn K mg "_law_purse" s_law_purse ["_law_script", "_law_at"])  : DefOk P w K mg base cl "_law_purse" 1 ["_law_script", "_law_at"] F_law_purse := by
  refine def_ok (k := 0) I c_law_purse fun f cdv A outer s H E hr => ?_
  have nd := c_law_purse.nd
  have tk : L2N.Takes (cxOf (L2N.CX P w) P w K mg base ["_law_script", "_law_at", "_law_cell", "_law_mix", "_law_k"] "_law_purse" (defScope s_law_purse) f cdv A outer s H E) (fun c d _ H => E c d H)   := L2N.takes_of rfl rfl rfl rfl
  have hp : PassesOwn (model P w) (cxOf (L2N.CX P w) P w K mg base ["_law_script", "_law_at", "_law_cell", "_law_mix", "_law_k"] "_law_purse" (defScope s_law_purse) f cdv A outer s H E).A (cxOf (L2N.CX P w) P w K mg base ["_law_script", "_law_at", "_law_cell", "_law_mix", "_law_k"] "_law_purse" (defScope s_law_purse) f cdv A outer s H E).env (cxOf (L2N.CX P w) P w K mg base ["_law_script", "_law_at", "_law_cell", "_law_mix", "_law_k"] "_law_purse" (defScope s_law_purse) f cdv A outer s H E).xe := passes_of rfl
  exact (qb_cons (qs_set nd rfl (by first | exact Or.inl rfl | exact Or.inr rfl) qe_int)
    (qb_cons (qs_if (qt_lt (qv 1) (qe_len (by rfl) T.len (qa_cons (qv 0) qa_nil))) (qb_one (qs_set nd rfl (by first | exact Or.inl rfl | exact Or.inr rfl) (qe_abs (by rfl) T.abs (qa_cons (qe_ix hr (qv 0) (qv 1)) qa_nil)))) qb_nil)
    (qb_cons (qs_set nd rfl (by first | exact Or.inl rfl | exact Or.inr rfl) (qe_add qe_int (qe_mul qe_int (qv 1))))
    (qb_cons (qs_fgt [4] (qs_for [4] hp rfl (qi_r1 (by rfl) T.range (qe_min2 rfl (by rfl) T.min (qa_cons (qe_len (by rfl) T.len (qa_cons (qv 0) qa_nil)) (qa_cons qe_int qa_nil)))) (qg_nm nd rfl (by first | exact Or.inl rfl | exact Or.inr rfl))
    (qb_one (qs_set nd rfl (by first | exact Or.inl rfl | exact Or.inr rfl) (qe_mod (qe_add (qe_add (qe_pow (qv 3) qe_int) (qe_mod (qe_ix hr (qv 0) (qv 4)) qe_int)) (qv 4)) qe_int)))))
    (qb_cons (qs_if (qt_lt (qv 2) (qe_pow qe_int qe_int)) (qb_one (qs_set nd rfl (by first | exact Or.inl rfl | exact Or.inr rfl) (qe_pow qe_int qe_int))) qb_nil)
    (qb_one (qs_ret (qe_new (qn_lst (qa_cons (qe_sub (qv 2) (qe_pow qe_int qe_int)) (qa_cons (qv 3) (qa_cons (qe_mod (qv 1) qe_int) qa_nil))))))))))))
noncomputable abbrev s_law_draw : Stmt := topS 47
theorem c_law_draw : FnScope ["_law_purse_here", "_law_many_here", "_law_digit", "_law_primes", "_law_found", "_law_room"] ["_law_purse_here", "_law_many_here"] (defScope s_law_draw) := ⟨rfl, rfl, rfl, by decide +kernel, rfl, by decide +kernel, by decide +kernel⟩
noncomputable def b_law_draw_1 : Stm := (sSeq (sSt (e2 modD (e2 addD (e2 mulD (e2 ixD (eVar 0) (eC (.int 1))) (eC (.int 48271))) (eC (.int 12345))) (eC (.int 2147483629))) (eVar 0) (eC (.int 1)))
    (sSeq (sSt (e2 modD (e2 addD (e2 ixD (eVar 0) (eC (.int 2))) (eC (.int 1))) (eC (.int 11))) (eVar 0) (eC (.int 2)))
    (sSeq (sSet 4 (e2 addD (e2 mulD (eVar 4) (eC (.int 99000))) (e2 modD (e2 powD (e2 ixD (eVar 0) (eC (.int 1))) (eC (.int 5))) (e2 ixD (eVar 3) (e2 ixD (eVar 0) (eC (.int 2)))))))
    (sSet 5 (e2 mulD (eVar 5) (eC (.int 99000)))))))
noncomputable def b_law_draw : Stm := (sSeq (sFgt [2] (sIf (eTB (e2 gtD (e2 ixD (eVar 0) (eC (.int 0))) (eC (.int 0)))) (sSeq (sSet 2 (e2 modD (e2 ixD (eVar 0) (eC (.int 0))) (eVar 1)))
    (sSeq (sSt (e2 fdivD (e2 ixD (eVar 0) (eC (.int 0))) (eVar 1)) (eVar 0) (eC (.int 0)))
    (sRet (eVar 2)))) sNext))
    (sSeq (sSet 3 (eTup [(eC (.int 99991)), (eC (.int 99989)), (eC (.int 99971)), (eC (.int 99961)), (eC (.int 99929)), (eC (.int 99923)), (eC (.int 99907)), (eC (.int 99901)), (eC (.int 99881)), (eC (.int 99877)), (eC (.int 99871))]))
    (sSeq (sSet 4 (eC (.int 0)))
    (sSeq (sSet 5 (eC (.int 1)))
    (sSeq (sFgt [5] (whileD [] (eTB (e2 ltD (eVar 5) (e2 mulD (eVar 1) (eC (.int 100))))) b_law_draw_1))
    (sRet (e2 modD (eVar 4) (eVar 1))))))))
noncomputable def F_law_draw : List D → Sto → Res D := runD .frz 6 b_law_draw
theorem k_law_draw (T : Bt K mg) (Ee : Er K mg cl) (I : DefIn K mg "_law_draw" s_law_draw ["_law_purse_here", "_law_many_here"])  : DefOk P w K mg base cl "_law_draw" 1 ["_law_purse_here", "_law_many_here"] F_law_draw := by
  refine def_ok (k := 0) I c_law_draw fun f cdv A outer s H E hr => ?_
  have nd := c_law_draw.nd
  have tk : L2N.Takes (cxOf (L2N.CX P w) P w K mg base ["_law_purse_here", "_law_many_here", "_law_digit", "_law_primes", "_law_found", "_law_room"] "_law_draw" (defScope s_law_draw) f cdv A outer s H E) (fun c d _ H => E c d H)   := L2N.takes_of rfl rfl rfl rfl
  have hp : PassesOwn (model P w) (cxOf (L2N.CX P w) P w K mg base ["_law_purse_here", "_law_many_here", "_law_digit", "_law_primes", "_law_found", "_law_room"] "_law_draw" (defScope s_law_draw) f cdv A outer s H E).A (cxOf (L2N.CX P w) P w K mg base ["_law_purse_here", "_law_many_here", "_law_digit", "_law_primes", "_law_found", "_law_room"] "_law_draw" (defScope s_law_draw) f cdv A outer s H E).env (cxOf (L2N.CX P w) P w K mg base ["_law_purse_here", "_law_many_here", "_law_digit", "_law_primes", "_law_found", "_law_room"] "_law_draw" (defScope s_law_draw) f cdv A outer s H E).xe := passes_of rfl
  exact (qb_cons (qs_fgt [2] (qs_if (qt_gt (qe_ix hr (qv 0) qe_int) qe_int) (qb_cons (qs_set nd rfl (by first | exact Or.inl rfl | exact Or.inr rfl) (qe_mod (qe_ix hr (qv 0) qe_int) (qv 1)))
    (qb_cons (qs_st hr (qe_fdiv (qe_ix hr (qv 0) qe_int) (qv 1)) (qv 0) qe_int)
    (qb_one (qs_ret (qv 2))))) qb_nil))
    (qb_cons (qs_set nd rfl (by first | exact Or.inl rfl | exact Or.inr rfl) (qe_tup (qa_cons qe_int (qa_cons qe_int (qa_cons qe_int (qa_cons qe_int (qa_cons qe_int (qa_cons qe_int (qa_cons qe_int (qa_cons qe_int (qa_cons qe_int (qa_cons qe_int (qa_cons qe_int qa_nil)))))))))))))
    (qb_cons (qs_set nd rfl (by first | exact Or.inl rfl | exact Or.inr rfl) qe_int)
    (qb_cons (qs_set nd rfl (by first | exact Or.inl rfl | exact Or.inr rfl) qe_int)
    (qb_cons (qs_fgt [5] (qs_while [] hp (qt_lt (qv 5) (qe_mul (qv 1) qe_int))
    (qb_cons (qs_st hr (qe_mod (qe_add (qe_mul (qe_ix hr (qv 0) qe_int) qe_int) qe_int) qe_int) (qv 0) qe_int)
    (qb_cons (qs_st hr (qe_mod (qe_add (qe_ix hr (qv 0) qe_int) qe_int) qe_int) (qv 0) qe_int)
    (qb_cons (qs_set nd rfl (by first | exact Or.inl rfl | exact Or.inr rfl) (qe_add (qe_mul (qv 4) qe_int) (qe_mod (qe_pow (qe_ix hr (qv 0) qe_int) qe_int) (qe_ix hr (qv 3) (qe_ix hr (qv 0) qe_int)))))
    (qb_one (qs_set nd rfl (by first | exact Or.inl rfl | exact Or.inr rfl) (qe_mul (qv 5) qe_int))))))))
    (qb_one (qs_ret (qe_mod (qv 4) (qv 1)))))))))
noncomputable abbrev s_law_many : Stmt := topS 48
theorem c_law_many : FnScope ["_law_script", "_law_most"] ["_law_script", "_law_most"] (defScope s_law_many) := ⟨rfl, rfl, rfl, by decide +kernel, rfl, by decide +kernel, by decide +kernel⟩
noncomputable def b_law_many : Stm := (sRet (eAno (nRg1 (eCall (ii2D maxI) [(eC (.int 1)), (eCall (ii2D minI) [(eVar 1), (eCall lenD [(eVar 0)])])]))))
noncomputable def F_law_many : List D → Sto → Res D := runD .frz 2 b_law_many
theorem k_law_many (T : Bt K mg) (Ee : Er K mg cl) (I : DefIn K mg "_law_many" s_law_many ["_law_script", "_law_most"])  : DefOk P w K mg base cl "_law_many" 1 ["_law_script", "_law_most"] F_law_many := by
  refine def_ok (k := 0) I c_law_many fun f cdv A outer s H E hr => ?_
  have nd := c_law_many.nd
  have tk : L2N.Takes (cxOf (L2N.CX P w) P w K mg base ["_law_script", "_law_most"] "_law_many" (defScope s_law_many) f cdv A outer s H E) (fun c d _ H => E c d H)   := L2N.takes_of rfl rfl rfl rfl
  have hp : PassesOwn (model P w) (cxOf (L2N.CX P w) P w K mg base ["_law_script", "_law_most"] "_law_many" (defScope s_law_many) f cdv A outer s H E).A (cxOf (L2N.CX P w) P w K mg base ["_law_script", "_law_most"] "_law_many" (defScope s_law_many) f cdv A outer s H E).env (cxOf (L2N.CX P w) P w K mg base ["_law_script", "_law_most"] "_law_many" (defScope s_law_many) f cdv A outer s H E).xe := passes_of rfl
  exact (qb_one (qs_ret (qe_ano (qn_rg1 rfl (by rfl) T.list (by rfl) T.range (qe_max2 rfl (by rfl) T.max (qa_cons qe_int (qa_cons (qe_min2 rfl (by rfl) T.min (qa_cons (qv 1) (qa_cons (qe_len (by rfl) T.len (qa_cons (qv 0) qa_nil)) qa_nil))) qa_nil)))))))
noncomputable abbrev s_law_is_whole : Stmt := topS 49
theorem c_law_is_whole : FnScope ["_law_found"] ["_law_found"] (defScope s_law_is_whole) := ⟨rfl, rfl, rfl, by decide +kernel, rfl, by decide +kernel, by decide +kernel⟩
noncomputable def b_law_is_whole : Stm := (sRet (eAndD (e1 (isD "int") (eVar 0)) (eNotD (e1 (isD "bool") (eVar 0)))))
noncomputable def F_law_is_whole : List D → Sto → Res D := runD .frz 1 b_law_is_whole
theorem k_law_is_whole (T : Bt K mg) (Ee : Er K mg cl) (I : DefIn K mg "_law_is_whole" s_law_is_whole ["_law_found"])  : DefOk P w K mg base cl "_law_is_whole" 1 ["_law_found"] F_law_is_whole := by
  refine def_ok (k := 0) I c_law_is_whole fun f cdv A outer s H E hr => ?_
  have nd := c_law_is_whole.nd
  have tk : L2N.Takes (cxOf (L2N.CX P w) P w K mg base ["_law_found"] "_law_is_whole" (defScope s_law_is_whole) f cdv A outer s H E) (fun c d _ H => E c d H)   := L2N.takes_of rfl rfl rfl rfl
  have hp : PassesOwn (model P w) (cxOf (L2N.CX P w) P w K mg base ["_law_found"] "_law_is_whole" (defScope s_law_is_whole) f cdv A outer s H E).A (cxOf (L2N.CX P w) P w K mg base ["_law_found"] "_law_is_whole" (defScope s_law_is_whole) f cdv A outer s H E).env (cxOf (L2N.CX P w) P w K mg base ["_law_found"] "_law_is_whole" (defScope s_law_is_whole) f cdv A outer s H E).xe := passes_of rfl
  exact (qb_one (qs_ret (qe_and (qe_is (T' := "int") (by decide) (by rfl) T.isinstance (by rfl) T.int (by decide +kernel) (qv 0)) (qe_one (qe_not (qe_is (T' := "bool") (by decide) (by rfl) T.isinstance (by rfl) T.bool (by decide +kernel) (qv 0)))))))
noncomputable abbrev s_law_run : Stmt := topS 50
theorem c_law_run : FnScope ["_law_purse_here", "_law_streets", "_law_is_far", "_law_street", "_law_step", "_law_first", "_law_most"] ["_law_purse_here", "_law_streets", "_law_is_far"] (defScope s_law_run) := ⟨rfl, rfl, rfl, by decide +kernel, rfl, by decide +kernel, by decide +kernel⟩
noncomputable def b_law_run : Stm := (sSeq (sSet 3 (eFn F_law_draw [(eVar 0), (eVar 1)]))
    (sSeq (sSet 4 (e2 ixD (eTup [(eC (.int 1)), (eC (.int 2)), (e1 negD (eC (.int 1))), (e1 negD (eC (.int 2)))]) (eFn F_law_draw [(eVar 0), (eC (.int 4))])))
    (sSeq (sIf (tNotD (eTr (eVar 2))) (sSeq (sSet 5 (e2 addD (eC (.int 1)) (eFn F_law_draw [(eVar 0), (eC (.int 30))])))
    (sSet 6 (eC (.int 8)))) (sSeq (sSet 5 (e2 addD (eC (.int 1)) (eFn F_law_draw [(eVar 0), (e2 subD (e2 powD (eC (.int 31)) (eC (.int 26))) (eC (.int 1)))])))
    (sSet 6 (e2 powD (eC (.int 31)) (eC (.int 26))))))
    (sSeq (sIf (eTB (e2 gtD (eVar 4) (eC (.int 0)))) (sSet 6 (eCall (ii2D minI) [(eVar 6), (e2 addD (e2 fdivD (e2 subD (e2 subD (e2 powD (eC (.int 31)) (eC (.int 26))) (eC (.int 1))) (eVar 5)) (eVar 4)) (eC (.int 1)))])) (sSet 6 (eCall (ii2D minI) [(eVar 6), (e2 addD (e2 fdivD (e2 subD (eVar 5) (eC (.int 1))) (e1 negD (eVar 4))) (eC (.int 1)))])))
    (sRet (eTup [(eVar 3), (eVar 5), (e2 addD (eVar 5) (e2 mulD (eFn F_law_draw [(eVar 0), (eVar 6)]) (eVar 4))), (eVar 4)]))))))
noncomputable def F_law_run : List D → Sto → Res D := runD .frz 7 b_law_run
theorem k_law_run (T : Bt K mg) (Ee : Er K mg cl) (I : DefIn K mg "_law_run" s_law_run ["_law_purse_here", "_law_streets", "_law_is_far"]) (G_law_draw : DefOk P w K mg base cl "_law_draw" 1 ["_law_purse_here", "_law_many_here"] F_law_draw) : DefOk P w K mg base cl "_law_run" 2 ["_law_purse_here", "_law_streets", "_law_is_far"] F_law_run := by
  refine def_ok (k := 1) I c_law_run fun f cdv A outer s H E hr => ?_
  have nd := c_law_run.nd
  have tk : L2N.Takes (cxOf (L2N.CX P w) P w K mg base ["_law_purse_here", "_law_streets", "_law_is_far", "_law_street", "_law_step", "_law_first", "_law_most"] "_law_run" (defScope s_law_run) f cdv A outer s H E) (fun c d _ H => E c d H)   := L2N.takes_of rfl rfl rfl rfl
  have hp : PassesOwn (model P w) (cxOf (L2N.CX P w) P w K mg base ["_law_purse_here", "_law_streets", "_law_is_far", "_law_street", "_law_step", "_law_first", "_law_most"] "_law_run" (defScope s_law_run) f cdv A outer s H E).A (cxOf (L2N.CX P w) P w K mg base ["_law_purse_here", "_law_streets", "_law_is_far", "_law_street", "_law_step", "_law_first", "_law_most"] "_law_run" (defScope s_law_run) f cdv A outer s H E).env (cxOf (L2N.CX P w) P w K mg base ["_law_purse_here", "_law_streets", "_law_is_far", "_law_street", "_law_step", "_law_first", "_law_most"] "_law_run" (defScope s_law_run) f cdv A outer s H E).xe := passes_of rfl
  exact (qb_cons (qs_set nd rfl (by first | exact Or.inl rfl | exact Or.inr rfl) (qe_fn (G_law_draw.mono (by decide)) hr (by rfl) tk (qa_cons (qv 0) (qa_cons (qv 1) qa_nil))))
    (qb_cons (qs_set nd rfl (by first | exact Or.inl rfl | exact Or.inr rfl) (qe_ix hr (qe_tup (qa_cons qe_int (qa_cons qe_int (qa_cons (qe_neg qe_int) (qa_cons (qe_neg qe_int) qa_nil))))) (qe_fn (G_law_draw.mono (by decide)) hr (by rfl) tk (qa_cons (qv 0) (qa_cons qe_int qa_nil)))))
    (qb_cons (qs_if (qt_not (qt_val (qv 2))) (qb_cons (qs_set nd rfl (by first | exact Or.inl rfl | exact Or.inr rfl) (qe_add qe_int (qe_fn (G_law_draw.mono (by decide)) hr (by rfl) tk (qa_cons (qv 0) (qa_cons qe_int qa_nil)))))
    (qb_one (qs_set nd rfl (by first | exact Or.inl rfl | exact Or.inr rfl) qe_int))) (qb_cons (qs_set nd rfl (by first | exact Or.inl rfl | exact Or.inr rfl) (qe_add qe_int (qe_fn (G_law_draw.mono (by decide)) hr (by rfl) tk (qa_cons (qv 0) (qa_cons (qe_sub (qe_pow qe_int qe_int) qe_int) qa_nil)))))
    (qb_one (qs_set nd rfl (by first | exact Or.inl rfl | exact Or.inr rfl) (qe_pow qe_int qe_int)))))
    (qb_cons (qs_if (qt_gt (qv 4) qe_int) (qb_one (qs_set nd rfl (by first | exact Or.inl rfl | exact Or.inr rfl) (qe_min2 rfl (by rfl) T.min (qa_cons (qv 6) (qa_cons (qe_add (qe_fdiv (qe_sub (qe_sub (qe_pow qe_int qe_int) qe_int) (qv 5)) (qv 4)) qe_int) qa_nil))))) (qb_one (qs_set nd rfl (by first | exact Or.inl rfl | exact Or.inr rfl) (qe_min2 rfl (by rfl) T.min (qa_cons (qv 6) (qa_cons (qe_add (qe_fdiv (qe_sub (qv 5) qe_int) (qe_neg (qv 4))) qe_int) qa_nil))))))
    (qb_one (qs_ret (qe_tup (qa_cons (qv 3) (qa_cons (qv 5) (qa_cons (qe_add (qv 5) (qe_mul (qe_fn (G_law_draw.mono (by decide)) hr (by rfl) tk (qa_cons (qv 0) (qa_cons (qv 6) qa_nil))) (qv 4))) (qa_cons (qv 4) qa_nil)))))))))))
noncomputable abbrev s_law_is_house : Stmt := topS 51
theorem c_law_is_house : FnScope ["_law_some"] ["_law_some"] (defScope s_law_is_house) := ⟨rfl, rfl, rfl, by decide +kernel, rfl, by decide +kernel, by decide +kernel⟩
noncomputable def b_law_is_house : Stm := (sRet (eAndD (eFn F_law_is_whole [(eVar 0)]) (eCh leD ltD (eC (.int 1)) (eVar 0) (e2 powD (eC (.int 31)) (eC (.int 26))))))
noncomputable def F_law_is_house : List D → Sto → Res D := runD .frz 1 b_law_is_house
theorem k_law_is_house (T : Bt K mg) (Ee : Er K mg cl) (I : DefIn K mg "_law_is_house" s_law_is_house ["_law_some"]) (G_law_is_whole : DefOk P w K mg base cl "_law_is_whole" 1 ["_law_found"] F_law_is_whole) : DefOk P w K mg base cl "_law_is_house" 2 ["_law_some"] F_law_is_house := by
  refine def_ok (k := 1) I c_law_is_house fun f cdv A outer s H E hr => ?_
  have nd := c_law_is_house.nd
  have tk : L2N.Takes (cxOf (L2N.CX P w) P w K mg base ["_law_some"] "_law_is_house" (defScope s_law_is_house) f cdv A outer s H E) (fun c d _ H => E c d H)   := L2N.takes_of rfl rfl rfl rfl
  have hp : PassesOwn (model P w) (cxOf (L2N.CX P w) P w K mg base ["_law_some"] "_law_is_house" (defScope s_law_is_house) f cdv A outer s H E).A (cxOf (L2N.CX P w) P w K mg base ["_law_some"] "_law_is_house" (defScope s_law_is_house) f cdv A outer s H E).env (cxOf (L2N.CX P w) P w K mg base ["_law_some"] "_law_is_house" (defScope s_law_is_house) f cdv A outer s H E).xe := passes_of rfl
  exact (qb_one (qs_ret (qe_and (qe_fn (G_law_is_whole.mono (by decide)) hr (by rfl) tk (qa_cons (qv 0) qa_nil)) (qe_one (qe_lelt qe_int (qv 0) (qe_pow qe_int qe_int))))))
noncomputable abbrev s_law_is_run : Stmt := topS 52
theorem c_law_is_run : FnScope ["_law_some", "_law_street", "_law_first", "_law_last", "_law_step", "_law_part"] ["_law_some"] (defScope s_law_is_run) := ⟨rfl, rfl, rfl, by decide +kernel, rfl, by decide +kernel, by decide +kernel⟩
noncomputable def b_law_is_run : Stm := (sSeq (sIf (tOrD (tNotD (eTr (e1 (isD "tuple") (eVar 0)))) (tOrD (eTB (e2 (eqD true) (eCall lenD [(eVar 0)]) (eC (.int 4)))) (tNotD (eTr (eCall (boolsD fun bs => bs.all id) [(eAno (nLc [5] (.nm 5) (iS (eVar 0)) tYesD (eFn F_law_is_whole [(eVar 5)])))]))))) (sRet (eC (.bl false))) sNext)
    (sSeq (sAsg (.tp [(.nm 1), (.nm 2), (.nm 3), (.nm 4)]) (eVar 0))
    (sSeq (sIf (tOrD (tNotD (eTB (eCh leD ltD (eC (.int 0)) (eVar 1) (eC (.int 31))))) (tOrD (tNotD (eTr (eFn F_law_is_house [(eVar 2)]))) (tOrD (tNotD (eTr (eFn F_law_is_house [(eVar 3)]))) (eTB (e2 (inD true) (eVar 4) (eTup [(eC (.int 1)), (eC (.int 2)), (e1 negD (eC (.int 1))), (e1 negD (eC (.int 2)))])))))) (sRet (eC (.bl false))) sNext)
    (sSeq (sIf (eTB (e2 (eqD false) (eVar 2) (eVar 3))) (sRet (eC (.bl true))) sNext)
    (sRet (eAndD (e2 (eqD false) (e2 gtD (eVar 3) (eVar 2)) (e2 gtD (eVar 4) (eC (.int 0)))) (e2 (eqD false) (e2 modD (e2 subD (eVar 3) (eVar 2)) (eCall absD [(eVar 4)])) (eC (.int 0)))))))))
noncomputable def F_law_is_run : List D → Sto → Res D := runD .frz 6 b_law_is_run
theorem k_law_is_run (T : Bt K mg) (Ee : Er K mg cl) (I : DefIn K mg "_law_is_run" s_law_is_run ["_law_some"]) (G_law_is_house : DefOk P w K mg base cl "_law_is_house" 2 ["_law_some"] F_law_is_house) (G_law_is_whole : DefOk P w K mg base cl "_law_is_whole" 1 ["_law_found"] F_law_is_whole) : DefOk P w K mg base cl "_law_is_run" 3 ["_law_some"] F_law_is_run := by
  refine def_ok (k := 2) I c_law_is_run fun f cdv A outer s H E hr => ?_
  have nd := c_law_is_run.nd
  have tk : L2N.Takes (cxOf (L2N.CX P w) P w K mg base ["_law_some", "_law_street", "_law_first", "_law_last", "_law_step", "_law_part"] "_law_is_run" (defScope s_law_is_run) f cdv A outer s H E) (fun c d _ H => E c d H)   := L2N.takes_of rfl rfl rfl rfl
  have hp : PassesOwn (model P w) (cxOf (L2N.CX P w) P w K mg base ["_law_some", "_law_street", "_law_first", "_law_last", "_law_step", "_law_part"] "_law_is_run" (defScope s_law_is_run) f cdv A outer s H E).A (cxOf (L2N.CX P w) P w K mg base ["_law_some", "_law_street", "_law_first", "_law_last", "_law_step", "_law_part"] "_law_is_run" (defScope s_law_is_run) f cdv A outer s H E).env (cxOf (L2N.CX P w) P w K mg base ["_law_some", "_law_street", "_law_first", "_law_last", "_law_step", "_law_part"] "_law_is_run" (defScope s_law_is_run) f cdv A outer s H E).xe := passes_of rfl
  exact (qb_cons (qs_if (PW.pt (qw_or (qt_not (qt_val (qe_is (T' := "tuple") (by decide) (by rfl) T.isinstance (by rfl) T.tuple (by decide +kernel) (qv 0)))) (qw_or (qt_ne hr (qe_len (by rfl) T.len (qa_cons (qv 0) qa_nil)) qe_int) (qw_or1 (qt_not (qt_val (qe_all rfl (by rfl) T.all (qa_cons (qe_ano (qn_lc (own := [("_law_part", 5)]) rfl nd (qi_s (qv 0)) (blkOk_by (by rfl)) (by decide) (fun _ _ _ _ _ => (qg_nm nd rfl (by first | exact Or.inl rfl | exact Or.inr rfl))) (fun _ _ _ _ _ => qts_nil) (fun _ _ _ _ _ => (qe_fn (G_law_is_whole.mono (by decide)) hr (by rfl) takesN (qa_cons (qv 5) qa_nil))))) qa_nil)))))))) (qb_one (qs_ret qe_bl)) qb_nil)
    (qb_cons (qs_asg (qv 0) (qg_tp rfl (qgs_cons (qg_nm nd rfl (by first | exact Or.inl rfl | exact Or.inr rfl)) (qgs_cons (qg_nm nd rfl (by first | exact Or.inl rfl | exact Or.inr rfl)) (qgs_cons (qg_nm nd rfl (by first | exact Or.inl rfl | exact Or.inr rfl)) (qgs_cons (qg_nm nd rfl (by first | exact Or.inl rfl | exact Or.inr rfl)) qgs_nil)))) rfl))
    (qb_cons (qs_if (PW.pt (qw_or (qt_not (qt_lelt qe_int (qv 1) qe_int)) (qw_or (qt_not (qt_val (qe_fn (G_law_is_house.mono (by decide)) hr (by rfl) tk (qa_cons (qv 2) qa_nil)))) (qw_or (qt_not (qt_val (qe_fn (G_law_is_house.mono (by decide)) hr (by rfl) tk (qa_cons (qv 3) qa_nil)))) (qw_or1 (qt_notIn hr (qv 4) (qe_tup (qa_cons qe_int (qa_cons qe_int (qa_cons (qe_neg qe_int) (qa_cons (qe_neg qe_int) qa_nil))))))))))) (qb_one (qs_ret qe_bl)) qb_nil)
    (qb_cons (qs_if (qt_eq hr (qv 2) (qv 3)) (qb_one (qs_ret qe_bl)) qb_nil)
    (qb_one (qs_ret (qe_and (qe_eq hr (qe_gt (qv 3) (qv 2)) (qe_gt (qv 4) qe_int)) (qe_one (qe_eq hr (qe_mod (qe_sub (qv 3) (qv 2)) (qe_abs (by rfl) T.abs (qa_cons (qv 4) qa_nil))) qe_int)))))))))
noncomputable abbrev s_law_walks : Stmt := topS 53
theorem c_law_walks : FnScope ["_law_purse_here", "_law_is_far", "_law_found", "_law_carrier", "_law_walk", "_law_place", "_law_one"] ["_law_purse_here", "_law_is_far"] (defScope s_law_walks) := ⟨rfl, rfl, rfl, by decide +kernel, rfl, by decide +kernel, by decide +kernel⟩
noncomputable def b_law_walks_1 : Stm := (sSeq (sSet 6 (eFn F_law_run [(eVar 0), (eC (.int 3)), (eVar 1)]))
    (sSeq (sIf (eTB (e2 gtD (eFn F_law_draw [(eVar 0), (eC (.int 3))]) (eC (.int 0)))) (sSet 6 (e2 addD (eTup [(e2 addD (e2 addD (eC (.int 5)) (e2 mulD (eC (.int 5)) (eVar 3))) (eVar 5))]) (eSl (eVar 6) (pE (eC (.int 1))) pN))) sNext)
    (sExpr (eM "list" appD (eVar 4) [(eVar 6)]))))
noncomputable def b_law_walks_2 : Stm := (sSeq (sSet 4 (eNew (nLst [])))
    (sSeq (sFgt [5, 6] (sFor [5, 6] (.nm 5) (iR1 (eFn F_law_draw [(eVar 0), (eC (.int 6))])) b_law_walks_1))
    (sExpr (eM "list" appD (eVar 2) [(eCall tupD [(eVar 4)])]))))
noncomputable def b_law_walks : Stm := (sSeq (sSet 2 (eNew (nLst [])))
    (sSeq (sFgt [3, 4, 5, 6] (sFor [3, 4, 5, 6] (.nm 3) (iR1 (eFn F_law_draw [(eVar 0), (eC (.int 5))])) b_law_walks_2))
    (sRet (eCall tupD [(eVar 2)]))))
noncomputable def F_law_walks : List D → Sto → Res D := runD .frz 7 b_law_walks
theorem k_law_walks (T : Bt K mg) (Ee : Er K mg cl) (I : DefIn K mg "_law_walks" s_law_walks ["_law_purse_here", "_law_is_far"]) (G_law_draw : DefOk P w K mg base cl "_law_draw" 1 ["_law_purse_here", "_law_many_here"] F_law_draw) (G_law_run : DefOk P w K mg base cl "_law_run" 2 ["_law_purse_here", "_law_streets", "_law_is_far"] F_law_run) : DefOk P w K mg base cl "_law_walks" 3 ["_law_purse_here", "_law_is_far"] F_law_walks := by
  refine def_ok (k := 2) I c_law_walks fun f cdv A outer s H E hr => ?_
  have nd := c_law_walks.nd
  have tk : L2N.Takes (cxOf (L2N.CX P w) P w K mg base ["_law_purse_here", "_law_is_far", "_law_found", "_law_carrier", "_law_walk", "_law_place", "_law_one"] "_law_walks" (defScope s_law_walks) f cdv A outer s H E) (fun c d _ H => E c d H)   := L2N.takes_of rfl rfl rfl rfl
  have hp : PassesOwn (model P w) (cxOf (L2N.CX P w) P w K mg base ["_law_purse_here", "_law_is_far", "_law_found", "_law_carrier", "_law_walk", "_law_place", "_law_one"] "_law_walks" (defScope s_law_walks) f cdv A outer s H E).A (cxOf (L2N.CX P w) P w K mg base ["_law_purse_here", "_law_is_far", "_law_found", "_law_carrier", "_law_walk", "_law_place", "_law_one"] "_law_walks" (defScope s_law_walks) f cdv A outer s H E).env (cxOf (L2N.CX P w) P w K mg base ["_law_purse_here", "_law_is_far", "_law_found", "_law_carrier", "_law_walk", "_law_place", "_law_one"] "_law_walks" (defScope s_law_walks) f cdv A outer s H E).xe := passes_of rfl
  exact (qb_cons (qs_set nd rfl (by first | exact Or.inl rfl | exact Or.inr rfl) (qe_new (qn_lst qa_nil)))
    (qb_cons (qs_fgt [3, 4, 5, 6] (qs_for [3, 4, 5, 6] hp rfl (qi_r1 (by rfl) T.range (qe_fn (G_law_draw.mono (by decide)) hr (by rfl) tk (qa_cons (qv 0) (qa_cons qe_int qa_nil)))) (qg_nm nd rfl (by first | exact Or.inl rfl | exact Or.inr rfl))
    (qb_cons (qs_set nd rfl (by first | exact Or.inl rfl | exact Or.inr rfl) (qe_new (qn_lst qa_nil)))
    (qb_cons (qs_fgt [5, 6] (qs_for [5, 6] hp rfl (qi_r1 (by rfl) T.range (qe_fn (G_law_draw.mono (by decide)) hr (by rfl) tk (qa_cons (qv 0) (qa_cons qe_int qa_nil)))) (qg_nm nd rfl (by first | exact Or.inl rfl | exact Or.inr rfl))
    (qb_cons (qs_set nd rfl (by first | exact Or.inl rfl | exact Or.inr rfl) (qe_fn (G_law_run.mono (by decide)) hr (by rfl) tk (qa_cons (qv 0) (qa_cons qe_int (qa_cons (qv 1) qa_nil)))))
    (qb_cons (qs_if (qt_gt (qe_fn (G_law_draw.mono (by decide)) hr (by rfl) tk (qa_cons (qv 0) (qa_cons qe_int qa_nil))) qe_int) (qb_one (qs_set nd rfl (by first | exact Or.inl rfl | exact Or.inr rfl) (qe_add (qe_tup (qa_cons (qe_add (qe_add qe_int (qe_mul qe_int (qv 3))) (qv 5)) qa_nil)) (qe_sl (qv 6) (qp_e qe_int) qp_n)))) qb_nil)
    (qb_one (qs_expr (qe_append (qv 4) (qv 6))))))))
    (qb_one (qs_expr (qe_append (qv 2) (qe_tuple (by rfl) T.tuple (qa_cons (qv 4) qa_nil)))))))))
    (qb_one (qs_ret (qe_tuple (by rfl) T.tuple (qa_cons (qv 2) qa_nil))))))
noncomputable abbrev s_law_bent_text : Stmt := topS 54
theorem c_law_bent_text : FnScope ["_law_purse_here", "_law_text", "_law_again", "_law_signs", "_law_spot", "_law_sign", "_law_way"] ["_law_purse_here", "_law_text"] (defScope s_law_bent_text) := ⟨rfl, rfl, rfl, by decide +kernel, rfl, by decide +kernel, by decide +kernel⟩
noncomputable def b_law_bent_text_1 : Stm := (sSeq (sSet 3 (eC (.str "0123456789-.,:; xtobyhlfrwadne_+")))
    (sSeq (sIf (eTB (e2 (eqD false) (eFn F_law_draw [(eVar 0), (eC (.int 3))]) (eC (.int 1)))) (sSet 3 (e2 addD (eVar 3) (eC (.str " !\"#$&'()*/<=>?@ABCDEFGHIJKLMNOPQRSTUVWXYZ[\\]^`cgijkmpqsuvz{|}~")))) sNext)
    (sSeq (sSet 4 (eFn F_law_draw [(eVar 0), (e2 addD (eCall lenD [(eVar 1)]) (eC (.int 1)))]))
    (sSeq (sSet 5 (e2 ixD (eVar 3) (eFn F_law_draw [(eVar 0), (eCall lenD [(eVar 3)])])))
    (sSeq (sSet 6 (eFn F_law_draw [(eVar 0), (eC (.int 3))]))
    (sSet 1 (e2 addD (e2 addD (eSl (eVar 1) pN (pE (eVar 4))) (e2 mulSD (eVar 5) (eCall int1D [(e2 ltD (eVar 6) (eC (.int 2)))]))) (eSl (eVar 1) (pE (e2 addD (eVar 4) (eCall int1D [(e2 gtD (eVar 6) (eC (.int 0)))]))) pN))))))))
noncomputable def b_law_bent_text : Stm := (sSeq (sFgt [2, 3, 4, 5, 6] (sFor [2, 3, 4, 5, 6] (.nm 2) (iR1 (eFn F_law_draw [(eVar 0), (eC (.int 3))])) b_law_bent_text_1))
    (sRet (eVar 1)))
noncomputable def F_law_bent_text : List D → Sto → Res D := runD .frz 7 b_law_bent_text
theorem k_law_bent_text (T : Bt K mg) (Ee : Er K mg cl) (I : DefIn K mg "_law_bent_text" s_law_bent_text ["_law_purse_here", "_law_text"]) (G_law_draw : DefOk P w K mg base cl "_law_draw" 1 ["_law_purse_here", "_law_many_here"] F_law_draw) : DefOk P w K mg base cl "_law_bent_text" 2 ["_law_purse_here", "_law_text"] F_law_bent_text := by
  refine def_ok (k := 1) I c_law_bent_text fun f cdv A outer s H E hr => ?_
  have nd := c_law_bent_text.nd
  have tk : L2N.Takes (cxOf (L2N.CX P w) P w K mg base ["_law_purse_here", "_law_text", "_law_again", "_law_signs", "_law_spot", "_law_sign", "_law_way"] "_law_bent_text" (defScope s_law_bent_text) f cdv A outer s H E) (fun c d _ H => E c d H)   := L2N.takes_of rfl rfl rfl rfl
  have hp : PassesOwn (model P w) (cxOf (L2N.CX P w) P w K mg base ["_law_purse_here", "_law_text", "_law_again", "_law_signs", "_law_spot", "_law_sign", "_law_way"] "_law_bent_text" (defScope s_law_bent_text) f cdv A outer s H E).A (cxOf (L2N.CX P w) P w K mg base ["_law_purse_here", "_law_text", "_law_again", "_law_signs", "_law_spot", "_law_sign", "_law_way"] "_law_bent_text" (defScope s_law_bent_text) f cdv A outer s H E).env (cxOf (L2N.CX P w) P w K mg base ["_law_purse_here", "_law_text", "_law_again", "_law_signs", "_law_spot", "_law_sign", "_law_way"] "_law_bent_text" (defScope s_law_bent_text) f cdv A outer s H E).xe := passes_of rfl
  exact (qb_cons (qs_fgt [2, 3, 4, 5, 6] (qs_for [2, 3, 4, 5, 6] hp rfl (qi_r1 (by rfl) T.range (qe_fn (G_law_draw.mono (by decide)) hr (by rfl) tk (qa_cons (qv 0) (qa_cons qe_int qa_nil)))) (qg_nm nd rfl (by first | exact Or.inl rfl | exact Or.inr rfl))
    (qb_cons (qs_set nd rfl (by first | exact Or.inl rfl | exact Or.inr rfl) qe_str)
    (qb_cons (qs_if (qt_eq hr (qe_fn (G_law_draw.mono (by decide)) hr (by rfl) tk (qa_cons (qv 0) (qa_cons qe_int qa_nil))) qe_int) (qb_one (qs_set nd rfl (by first | exact Or.inl rfl | exact Or.inr rfl) (qe_add (qv 3) qe_str))) qb_nil)
    (qb_cons (qs_set nd rfl (by first | exact Or.inl rfl | exact Or.inr rfl) (qe_fn (G_law_draw.mono (by decide)) hr (by rfl) tk (qa_cons (qv 0) (qa_cons (qe_add (qe_len (by rfl) T.len (qa_cons (qv 1) qa_nil)) qe_int) qa_nil))))
    (qb_cons (qs_set nd rfl (by first | exact Or.inl rfl | exact Or.inr rfl) (qe_ix hr (qv 3) (qe_fn (G_law_draw.mono (by decide)) hr (by rfl) tk (qa_cons (qv 0) (qa_cons (qe_len (by rfl) T.len (qa_cons (qv 3) qa_nil)) qa_nil)))))
    (qb_cons (qs_set nd rfl (by first | exact Or.inl rfl | exact Or.inr rfl) (qe_fn (G_law_draw.mono (by decide)) hr (by rfl) tk (qa_cons (qv 0) (qa_cons qe_int qa_nil))))
    (qb_one (qs_set nd rfl (by first | exact Or.inl rfl | exact Or.inr rfl) (qe_add (qe_add (qe_sl (qv 1) qp_n (qp_e (qv 4))) (qe_mulS (qv 5) (qe_intOf (by rfl) T.int (qa_cons (qe_lt (qv 6) qe_int) qa_nil)))) (qe_sl (qv 1) (qp_e (qe_add (qv 4) (qe_intOf (by rfl) T.int (qa_cons (qe_gt (qv 6) qe_int) qa_nil)))) qp_n)))))))))))
    (qb_one (qs_ret (qv 1))))
noncomputable abbrev s_law_whole_in : Stmt := topS 55
theorem c_law_whole_in : FnScope ["_law_text", "_law_signs", "_law_sign"] ["_law_text"] (defScope s_law_whole_in) := ⟨rfl, rfl, rfl, by decide +kernel, rfl, by decide +kernel, by decide +kernel⟩
noncomputable def b_law_whole_in : Stm := (sSeq (sSet 1 (eIf (eTB (e2 (eqD false) (eSl (eVar 0) pN (pE (eC (.int 1)))) (eC (.str "-")))) (eSl (eVar 0) (pE (eC (.int 1))) pN) (eVar 0)))
    (sSeq (sIf (tOrD (eTB (e2 (eqD false) (eVar 1) (eC (.str "")))) (tNotD (eTr (eCall (boolsD fun bs => bs.all id) [(eAno (nLc [2] (.nm 2) (iTx (eVar 1)) tYesD (e2 (inD false) (eVar 2) (eC (.str "0123456789")))))])))) (sRet (eC .non)) sNext)
    (sRet (eIf (tAndD (eTB (e2 (eqD false) (e2 ixD (eVar 1) (eC (.int 0))) (eC (.str "0")))) (eTB (e2 (eqD true) (eVar 0) (eC (.str "0"))))) (eC .non) (eCall intT [(eVar 0)])))))
noncomputable def F_law_whole_in : List D → Sto → Res D := runD .frz 3 b_law_whole_in
theorem k_law_whole_in (T : Bt K mg) (Ee : Er K mg cl) (I : DefIn K mg "_law_whole_in" s_law_whole_in ["_law_text"])  : DefOk P w K mg base cl "_law_whole_in" 1 ["_law_text"] F_law_whole_in := by
  refine def_ok (k := 0) I c_law_whole_in fun f cdv A outer s H E hr => ?_
  have nd := c_law_whole_in.nd
  have tk : L2N.Takes (cxOf (L2N.CX P w) P w K mg base ["_law_text", "_law_signs", "_law_sign"] "_law_whole_in" (defScope s_law_whole_in) f cdv A outer s H E) (fun c d _ H => E c d H)   := L2N.takes_of rfl rfl rfl rfl
  have hp : PassesOwn (model P w) (cxOf (L2N.CX P w) P w K mg base ["_law_text", "_law_signs", "_law_sign"] "_law_whole_in" (defScope s_law_whole_in) f cdv A outer s H E).A (cxOf (L2N.CX P w) P w K mg base ["_law_text", "_law_signs", "_law_sign"] "_law_whole_in" (defScope s_law_whole_in) f cdv A outer s H E).env (cxOf (L2N.CX P w) P w K mg base ["_law_text", "_law_signs", "_law_sign"] "_law_whole_in" (defScope s_law_whole_in) f cdv A outer s H E).xe := passes_of rfl
  exact (qb_cons (qs_set nd rfl (by first | exact Or.inl rfl | exact Or.inr rfl) (qe_if (qt_eq hr (qe_sl (qv 0) qp_n (qp_e qe_int)) qe_str) (qe_sl (qv 0) (qp_e qe_int) qp_n) (qv 0)))
    (qb_cons (qs_if (PW.pt (qw_or (qt_eq hr (qv 1) qe_str) (qw_or1 (qt_not (qt_val (qe_all rfl (by rfl) T.all (qa_cons (qe_ano (qn_lc (own := [("_law_sign", 2)]) rfl nd (qi_tx (qv 1)) (blkOk_by (by rfl)) (by decide) (fun _ _ _ _ _ => (qg_nm nd rfl (by first | exact Or.inl rfl | exact Or.inr rfl))) (fun _ _ _ _ _ => qts_nil) (fun _ _ _ _ _ => (qe_in hr (qv 2) qe_str)))) qa_nil))))))) (qb_one (qs_ret qe_non)) qb_nil)
    (qb_one (qs_ret (qe_if (PW.pt (qw_and (qt_eq hr (qe_ix hr (qv 1) qe_int) qe_str) (qw_and1 (qt_ne hr (qv 0) qe_str)))) qe_non (qe_intT (by rfl) T.int (qa_cons (qv 0) qa_nil)))))))
noncomputable abbrev s_law_pair_in : Stmt := topS 56
theorem c_law_pair_in : FnScope ["_law_text", "_law_sign", "_law_words", "_law_word"] ["_law_text", "_law_sign"] (defScope s_law_pair_in) := ⟨rfl, rfl, rfl, by decide +kernel, rfl, by decide +kernel, by decide +kernel⟩
noncomputable def b_law_pair_in : Stm := (sSeq (sSet 2 (eAno (nLc [3] (.nm 3) (iS (eAno (nSplit (eVar 0) (eVar 1)))) tYesD (eFn F_law_whole_in [(eVar 3)]))))
    (sRet (eIf (tOrD (eTB (e2 (eqD true) (eCall lenD [(eVar 2)]) (eC (.int 2)))) (eTB (e2 (inD false) (eC .non) (eVar 2)))) (eC .non) (eCall tupD [(eVar 2)]))))
noncomputable def F_law_pair_in : List D → Sto → Res D := runD .frz 4 b_law_pair_in
theorem k_law_pair_in (T : Bt K mg) (Ee : Er K mg cl) (I : DefIn K mg "_law_pair_in" s_law_pair_in ["_law_text", "_law_sign"]) (G_law_whole_in : DefOk P w K mg base cl "_law_whole_in" 1 ["_law_text"] F_law_whole_in) : DefOk P w K mg base cl "_law_pair_in" 2 ["_law_text", "_law_sign"] F_law_pair_in := by
  refine def_ok (k := 1) I c_law_pair_in fun f cdv A outer s H E hr => ?_
  have nd := c_law_pair_in.nd
  have tk : L2N.Takes (cxOf (L2N.CX P w) P w K mg base ["_law_text", "_law_sign", "_law_words", "_law_word"] "_law_pair_in" (defScope s_law_pair_in) f cdv A outer s H E) (fun c d _ H => E c d H)   := L2N.takes_of rfl rfl rfl rfl
  have hp : PassesOwn (model P w) (cxOf (L2N.CX P w) P w K mg base ["_law_text", "_law_sign", "_law_words", "_law_word"] "_law_pair_in" (defScope s_law_pair_in) f cdv A outer s H E).A (cxOf (L2N.CX P w) P w K mg base ["_law_text", "_law_sign", "_law_words", "_law_word"] "_law_pair_in" (defScope s_law_pair_in) f cdv A outer s H E).env (cxOf (L2N.CX P w) P w K mg base ["_law_text", "_law_sign", "_law_words", "_law_word"] "_law_pair_in" (defScope s_law_pair_in) f cdv A outer s H E).xe := passes_of rfl
  exact (qb_cons (qs_setLc (own := [("_law_word", 3)]) rfl nd rfl rfl (sw_true rfl rfl rfl (by decide +kernel)) (qi_s (qe_ano (qn_split (qv 0) (qv 1)))) (blkOk_by (by rfl)) (by decide) (fun _ _ _ _ _ => (qg_nm nd rfl (by first | exact Or.inl rfl | exact Or.inr rfl))) (fun _ _ _ _ _ => qts_nil) (fun _ _ _ _ _ => (qe_fn (G_law_whole_in.mono (by decide)) hr (by rfl) takesN (qa_cons (qv 3) qa_nil))) imp_ano)
    (qb_one (qs_ret (qe_if (PW.pt (qw_or (qt_ne hr (qe_len (by rfl) T.len (qa_cons (qv 2) qa_nil)) qe_int) (qw_or1 (qt_in hr qe_non (qv 2))))) qe_non (qe_tuple (by rfl) T.tuple (qa_cons (qv 2) qa_nil))))))
noncomputable abbrev s_law_is_no_text : Stmt := topS 57
theorem c_law_is_no_text : FnScope ["_law_e", "_law_others"] ["_law_e"] (defScope s_law_is_no_text) := ⟨rfl, rfl, rfl, by decide +kernel, rfl, by decide +kernel, by decide +kernel⟩
theorem e_law_is_no_text_NoText (T : Bt K mg) (Ee : Er K mg cl) (I : DefIn K mg "_law_is_no_text" s_law_is_no_text ["_law_e"]) : DefE P w K mg base cl "_law_is_no_text" 1 ["_law_e"] "NoText" true := by
  refine defE_ok (k := 0) I c_law_is_no_text fun f cdv A outer s H E a oe hz hf hh hr => ?_
  have nd := c_law_is_no_text.nd
  exact (hb_lst (j := 1) nd rfl (by first | exact Or.inl rfl | exact Or.inr rfl) (by decide) (lhe_cons (he_is hz hf List.mem_cons_self Ee.x_NoText (by rfl) T.isinstance (pv 0) (by rfl) Ee.g_NoMark Ee.i_NoText_NoMark) (lhe_cons (he_is hz hf List.mem_cons_self Ee.x_NoText (by rfl) T.isinstance (pv 0) (by rfl) Ee.g_NoLetter Ee.i_NoText_NoLetter) (lhe_cons (he_is hz hf List.mem_cons_self Ee.x_NoText (by rfl) T.isinstance (pv 0) (by rfl) Ee.g_NoBin Ee.i_NoText_NoBin) (lhe_cons (he_is hz hf List.mem_cons_self Ee.x_NoText (by rfl) T.isinstance (pv 0) (by rfl) Ee.g_NotDone Ee.i_NoText_NotDone) lhe_nil))))
    (hl_cat nd rfl (by first | exact Or.inl rfl | exact Or.inr rfl) (by decide) (pv 1) (lhe_cons (he_is hz hf List.mem_cons_self Ee.x_NoText (by rfl) T.isinstance (pv 0) (by rfl) Ee.g_NoTaking Ee.i_NoText_NoTaking) (lhe_cons (he_is hz hf List.mem_cons_self Ee.x_NoText (by rfl) T.isinstance (pv 0) (by rfl) Ee.g_NoOrder Ee.i_NoText_NoOrder) (lhe_cons (he_is hz hf List.mem_cons_self Ee.x_NoText (by rfl) T.isinstance (pv 0) (by rfl) Ee.g_NoBook Ee.i_NoText_NoBook) (lhe_cons (he_is hz hf List.mem_cons_self Ee.x_NoText (by rfl) T.isinstance (pv 0) (by rfl) Ee.g_NoPile Ee.i_NoText_NoPile) lhe_nil))))
    (hl_cat nd rfl (by first | exact Or.inl rfl | exact Or.inr rfl) (by decide) (pv 1) (lhe_cons (he_is hz hf List.mem_cons_self Ee.x_NoText (by rfl) T.isinstance (pv 0) (by rfl) Ee.g_NoPlan Ee.i_NoText_NoPlan) (lhe_cons (he_is hz hf List.mem_cons_self Ee.x_NoText (by rfl) T.isinstance (pv 0) (by rfl) Ee.g_NoCarrier Ee.i_NoText_NoCarrier) (lhe_cons (he_is hz hf List.mem_cons_self Ee.x_NoText (by rfl) T.isinstance (pv 0) (by rfl) Ee.g_NoStop Ee.i_NoText_NoStop) (lhe_cons (he_is hz hf List.mem_cons_self Ee.x_NoText (by rfl) T.isinstance (pv 0) (by rfl) Ee.g_NoRow Ee.i_NoText_NoRow) lhe_nil))))
    (hl_app (pv 1) (he_is hz hf List.mem_cons_self Ee.x_NoText (by rfl) T.isinstance (pv 0) (by rfl) Ee.g_NoOffice Ee.i_NoText_NoOffice)
    (hl_ret (he2_and (he2_not (he2_any hz hf List.mem_cons_self hh (by rfl) T.any (pv 1))) (he2_and (he2_of (he_is hz hf List.mem_cons_self Ee.x_NoText (by rfl) T.isinstance (pv 0) (by rfl) Ee.g_NoText Ee.i_NoText_NoText)) (he2_one (he2_of (he_isV hz hf List.mem_cons_self Ee.x_NoText (by rfl) T.isinstance (pv 0) (by rfl) T.ValueError Ee.v_NoText))))))))))
noncomputable abbrev s_law_address_text : Stmt := topS 58
theorem c_law_address_text : FnScope ["_law_one"] ["_law_one"] (defScope s_law_address_text) := ⟨rfl, rfl, rfl, by decide +kernel, rfl, by decide +kernel, by decide +kernel⟩
noncomputable def b_law_address_text : Stm := (sRet (e2 addD (e2 addD (eCall strI [(e2 ixD (eVar 0) (eC (.int 0)))]) (eC (.str "."))) (eCall strI [(e2 ixD (eVar 0) (eC (.int 1)))])))
noncomputable def F_law_address_text : List D → Sto → Res D := runD .frz 1 b_law_address_text
theorem k_law_address_text (T : Bt K mg) (Ee : Er K mg cl) (I : DefIn K mg "_law_address_text" s_law_address_text ["_law_one"])  : DefOk P w K mg base cl "_law_address_text" 1 ["_law_one"] F_law_address_text := by
  refine def_ok (k := 0) I c_law_address_text fun f cdv A outer s H E hr => ?_
  have nd := c_law_address_text.nd
  have tk : L2N.Takes (cxOf (L2N.CX P w) P w K mg base ["_law_one"] "_law_address_text" (defScope s_law_address_text) f cdv A outer s H E) (fun c d _ H => E c d H)   := L2N.takes_of rfl rfl rfl rfl
  have hp : PassesOwn (model P w) (cxOf (L2N.CX P w) P w K mg base ["_law_one"] "_law_address_text" (defScope s_law_address_text) f cdv A outer s H E).A (cxOf (L2N.CX P w) P w K mg base ["_law_one"] "_law_address_text" (defScope s_law_address_text) f cdv A outer s H E).env (cxOf (L2N.CX P w) P w K mg base ["_law_one"] "_law_address_text" (defScope s_law_address_text) f cdv A outer s H E).xe := passes_of rfl
  exact (qb_one (qs_ret (qe_add (qe_add (qe_strI (by rfl) T.str (qa_cons (qe_ix hr (qv 0) qe_int) qa_nil)) qe_str) (qe_strI (by rfl) T.str (qa_cons (qe_ix hr (qv 0) qe_int) qa_nil)))))
noncomputable abbrev s_law_run_text : Stmt := topS 59
theorem c_law_run_text : FnScope ["_law_one"] ["_law_one"] (defScope s_law_run_text) := ⟨rfl, rfl, rfl, by decide +kernel, rfl, by decide +kernel, by decide +kernel⟩
noncomputable def b_law_run_text : Stm := (sRet (e2 addD (e2 addD (e2 addD (e2 addD (eFn F_law_address_text [(eSl (eVar 0) pN (pE (eC (.int 2))))]) (eC (.str " to "))) (eCall strI [(e2 ixD (eVar 0) (eC (.int 2)))])) (eC (.str " by "))) (eCall strI [(e2 ixD (eVar 0) (eC (.int 3)))])))
noncomputable def F_law_run_text : List D → Sto → Res D := runD .frz 1 b_law_run_text
theorem k_law_run_text (T : Bt K mg) (Ee : Er K mg cl) (I : DefIn K mg "_law_run_text" s_law_run_text ["_law_one"]) (G_law_address_text : DefOk P w K mg base cl "_law_address_text" 1 ["_law_one"] F_law_address_text) : DefOk P w K mg base cl "_law_run_text" 2 ["_law_one"] F_law_run_text := by
  refine def_ok (k := 1) I c_law_run_text fun f cdv A outer s H E hr => ?_
  have nd := c_law_run_text.nd
  have tk : L2N.Takes (cxOf (L2N.CX P w) P w K mg base ["_law_one"] "_law_run_text" (defScope s_law_run_text) f cdv A outer s H E) (fun c d _ H => E c d H)   := L2N.takes_of rfl rfl rfl rfl
  have hp : PassesOwn (model P w) (cxOf (L2N.CX P w) P w K mg base ["_law_one"] "_law_run_text" (defScope s_law_run_text) f cdv A outer s H E).A (cxOf (L2N.CX P w) P w K mg base ["_law_one"] "_law_run_text" (defScope s_law_run_text) f cdv A outer s H E).env (cxOf (L2N.CX P w) P w K mg base ["_law_one"] "_law_run_text" (defScope s_law_run_text) f cdv A outer s H E).xe := passes_of rfl
  exact (qb_one (qs_ret (qe_add (qe_add (qe_add (qe_add (qe_fn (G_law_address_text.mono (by decide)) hr (by rfl) tk (qa_cons (qe_sl (qv 0) qp_n (qp_e qe_int)) qa_nil)) qe_str) (qe_strI (by rfl) T.str (qa_cons (qe_ix hr (qv 0) qe_int) qa_nil))) qe_str) (qe_strI (by rfl) T.str (qa_cons (qe_ix hr (qv 0) qe_int) qa_nil)))))
noncomputable abbrev s_law_walk_text : Stmt := topS 60
theorem c_law_walk_text : FnScope ["_law_one", "_law_part"] ["_law_one"] (defScope s_law_walk_text) := ⟨rfl, rfl, rfl, by decide +kernel, rfl, by decide +kernel, by decide +kernel⟩
noncomputable def b_law_walk_text : Stm := (sRet (eIf (eTB (e2 (eqD true) (eVar 0) (eTup []))) (eM "str" joinD (eC (.str ", ")) [(eAno (nLc [1] (.nm 1) (iS (eVar 0)) tYesD (eFn F_law_run_text [(eVar 1)])))]) (eC (.str "-"))))
noncomputable def F_law_walk_text : List D → Sto → Res D := runD .frz 2 b_law_walk_text
theorem k_law_walk_text (T : Bt K mg) (Ee : Er K mg cl) (I : DefIn K mg "_law_walk_text" s_law_walk_text ["_law_one"]) (G_law_run_text : DefOk P w K mg base cl "_law_run_text" 2 ["_law_one"] F_law_run_text) : DefOk P w K mg base cl "_law_walk_text" 3 ["_law_one"] F_law_walk_text := by
  refine def_ok (k := 2) I c_law_walk_text fun f cdv A outer s H E hr => ?_
  have nd := c_law_walk_text.nd
  have tk : L2N.Takes (cxOf (L2N.CX P w) P w K mg base ["_law_one", "_law_part"] "_law_walk_text" (defScope s_law_walk_text) f cdv A outer s H E) (fun c d _ H => E c d H)   := L2N.takes_of rfl rfl rfl rfl
  have hp : PassesOwn (model P w) (cxOf (L2N.CX P w) P w K mg base ["_law_one", "_law_part"] "_law_walk_text" (defScope s_law_walk_text) f cdv A outer s H E).A (cxOf (L2N.CX P w) P w K mg base ["_law_one", "_law_part"] "_law_walk_text" (defScope s_law_walk_text) f cdv A outer s H E).env (cxOf (L2N.CX P w) P w K mg base ["_law_one", "_law_part"] "_law_walk_text" (defScope s_law_walk_text) f cdv A outer s H E).xe := passes_of rfl
  exact (qb_one (qs_ret (qe_if (qt_ne hr (qv 0) (qe_tup qa_nil)) (qe_join qe_str (qe_ano (qn_lc (own := [("_law_part", 1)]) rfl nd (qi_s (qv 0)) (blkOk_by (by rfl)) (by decide) (fun _ _ _ _ _ => (qg_nm nd rfl (by first | exact Or.inl rfl | exact Or.inr rfl))) (fun _ _ _ _ _ => qts_nil) (fun _ _ _ _ _ => (qe_fn (G_law_run_text.mono (by decide)) hr (by rfl) takesN (qa_cons (qv 1) qa_nil)))))) qe_str)))
noncomputable abbrev s_law_book_text : Stmt := topS 61
theorem c_law_book_text : FnScope ["_law_one", "_law_walk"] ["_law_one"] (defScope s_law_book_text) := ⟨rfl, rfl, rfl, by decide +kernel, rfl, by decide +kernel, by decide +kernel⟩
noncomputable def b_law_book_text : Stm := (sRet (eIf (eTB (e2 (eqD true) (eVar 0) (eTup []))) (eM "str" joinD (eC (.str "; ")) [(eAno (nLc [1] (.nm 1) (iS (eVar 0)) tYesD (eFn F_law_walk_text [(eVar 1)])))]) (eC (.str "none"))))
noncomputable def F_law_book_text : List D → Sto → Res D := runD .frz 2 b_law_book_text
theorem k_law_book_text (T : Bt K mg) (Ee : Er K mg cl) (I : DefIn K mg "_law_book_text" s_law_book_text ["_law_one"]) (G_law_walk_text : DefOk P w K mg base cl "_law_walk_text" 3 ["_law_one"] F_law_walk_text) : DefOk P w K mg base cl "_law_book_text" 4 ["_law_one"] F_law_book_text := by
  refine def_ok (k := 3) I c_law_book_text fun f cdv A outer s H E hr => ?_
  have nd := c_law_book_text.nd
  have tk : L2N.Takes (cxOf (L2N.CX P w) P w K mg base ["_law_one", "_law_walk"] "_law_book_text" (defScope s_law_book_text) f cdv A outer s H E) (fun c d _ H => E c d H)   := L2N.takes_of rfl rfl rfl rfl
  have hp : PassesOwn (model P w) (cxOf (L2N.CX P w) P w K mg base ["_law_one", "_law_walk"] "_law_book_text" (defScope s_law_book_text) f cdv A outer s H E).A (cxOf (L2N.CX P w) P w K mg base ["_law_one", "_law_walk"] "_law_book_text" (defScope s_law_book_text) f cdv A outer s H E).env (cxOf (L2N.CX P w) P w K mg base ["_law_one", "_law_walk"] "_law_book_text" (defScope s_law_book_text) f cdv A outer s H E).xe := passes_of rfl
  exact (qb_one (qs_ret (qe_if (qt_ne hr (qv 0) (qe_tup qa_nil)) (qe_join qe_str (qe_ano (qn_lc (own := [("_law_walk", 1)]) rfl nd (qi_s (qv 0)) (blkOk_by (by rfl)) (by decide) (fun _ _ _ _ _ => (qg_nm nd rfl (by first | exact Or.inl rfl | exact Or.inr rfl))) (fun _ _ _ _ _ => qts_nil) (fun _ _ _ _ _ => (qe_fn (G_law_walk_text.mono (by decide)) hr (by rfl) takesN (qa_cons (qv 1) qa_nil)))))) qe_str)))
noncomputable abbrev s_law_run_in : Stmt := topS 62
theorem c_law_run_in : FnScope ["_law_text", "_law_words", "_law_found"] ["_law_text"] (defScope s_law_run_in) := ⟨rfl, rfl, rfl, by decide +kernel, rfl, by decide +kernel, by decide +kernel⟩
noncomputable def b_law_run_in : Stm := (sSeq (sSet 1 (eAno (nSplit (eVar 0) (eC (.str " ")))))
    (sSeq (sIf (tOrD (eTB (e2 (eqD true) (eCall lenD [(eVar 1)]) (eC (.int 5)))) (tOrD (eTB (e2 (eqD true) (e2 ixD (eVar 1) (eC (.int 1))) (eC (.str "to")))) (tOrD (eTB (e2 (eqD true) (e2 ixD (eVar 1) (eC (.int 3))) (eC (.str "by")))) (eTB (e1 (isND false) (eFn F_law_pair_in [(e2 ixD (eVar 1) (eC (.int 0))), (eC (.str "."))])))))) (sRet (eC .non)) sNext)
    (sSeq (sSet 2 (e2 addD (eFn F_law_pair_in [(e2 ixD (eVar 1) (eC (.int 0))), (eC (.str "."))]) (eTup [(eFn F_law_whole_in [(e2 ixD (eVar 1) (eC (.int 2)))]), (eFn F_law_whole_in [(e2 ixD (eVar 1) (eC (.int 4)))])])))
    (sRet (eIf (eTr (eFn F_law_is_run [(eVar 2)])) (eVar 2) (eC .non))))))
noncomputable def F_law_run_in : List D → Sto → Res D := runD .frz 3 b_law_run_in
theorem k_law_run_in (T : Bt K mg) (Ee : Er K mg cl) (I : DefIn K mg "_law_run_in" s_law_run_in ["_law_text"]) (G_law_pair_in : DefOk P w K mg base cl "_law_pair_in" 2 ["_law_text", "_law_sign"] F_law_pair_in) (G_law_is_run : DefOk P w K mg base cl "_law_is_run" 3 ["_law_some"] F_law_is_run) (G_law_whole_in : DefOk P w K mg base cl "_law_whole_in" 1 ["_law_text"] F_law_whole_in) : DefOk P w K mg base cl "_law_run_in" 4 ["_law_text"] F_law_run_in := by
  refine def_ok (k := 3) I c_law_run_in fun f cdv A outer s H E hr => ?_
  have nd := c_law_run_in.nd
  have tk : L2N.Takes (cxOf (L2N.CX P w) P w K mg base ["_law_text", "_law_words", "_law_found"] "_law_run_in" (defScope s_law_run_in) f cdv A outer s H E) (fun c d _ H => E c d H)   := L2N.takes_of rfl rfl rfl rfl
  have hp : PassesOwn (model P w) (cxOf (L2N.CX P w) P w K mg base ["_law_text", "_law_words", "_law_found"] "_law_run_in" (defScope s_law_run_in) f cdv A outer s H E).A (cxOf (L2N.CX P w) P w K mg base ["_law_text", "_law_words", "_law_found"] "_law_run_in" (defScope s_law_run_in) f cdv A outer s H E).env (cxOf (L2N.CX P w) P w K mg base ["_law_text", "_law_words", "_law_found"] "_law_run_in" (defScope s_law_run_in) f cdv A outer s H E).xe := passes_of rfl
  exact (qb_cons (qs_set nd rfl (by first | exact Or.inl rfl | exact Or.inr rfl) (qe_ano (qn_split (qv 0) qe_str)))
    (qb_cons (qs_if (PW.pt (qw_or (qt_ne hr (qe_len (by rfl) T.len (qa_cons (qv 1) qa_nil)) qe_int) (qw_or (qt_ne hr (qe_ix hr (qv 1) qe_int) qe_str) (qw_or (qt_ne hr (qe_ix hr (qv 1) qe_int) qe_str) (qw_or1 (qt_isN (qe_fn (G_law_pair_in.mono (by decide)) hr (by rfl) tk (qa_cons (qe_ix hr (qv 1) qe_int) (qa_cons qe_str qa_nil))))))))) (qb_one (qs_ret qe_non)) qb_nil)
    (qb_cons (qs_set nd rfl (by first | exact Or.inl rfl | exact Or.inr rfl) (qe_add (qe_fn (G_law_pair_in.mono (by decide)) hr (by rfl) tk (qa_cons (qe_ix hr (qv 1) qe_int) (qa_cons qe_str qa_nil))) (qe_tup (qa_cons (qe_fn (G_law_whole_in.mono (by decide)) hr (by rfl) tk (qa_cons (qe_ix hr (qv 1) qe_int) qa_nil)) (qa_cons (qe_fn (G_law_whole_in.mono (by decide)) hr (by rfl) tk (qa_cons (qe_ix hr (qv 1) qe_int) qa_nil)) qa_nil)))))
    (qb_one (qs_ret (qe_if (qt_val (qe_fn (G_law_is_run.mono (by decide)) hr (by rfl) tk (qa_cons (qv 2) qa_nil))) (qv 2) qe_non))))))
noncomputable abbrev s_law_walk_in : Stmt := topS 63
theorem c_law_walk_in : FnScope ["_law_text", "_law_found", "_law_word"] ["_law_text"] (defScope s_law_walk_in) := ⟨rfl, rfl, rfl, by decide +kernel, rfl, by decide +kernel, by decide +kernel⟩
noncomputable def b_law_walk_in : Stm := (sSeq (sIf (eTB (e2 (eqD false) (eVar 0) (eC (.str "-")))) (sRet (eTup [])) sNext)
    (sSeq (sSet 1 (eAno (nLc [2] (.nm 2) (iS (eAno (nSplit (eVar 0) (eC (.str ", "))))) tYesD (eFn F_law_run_in [(eVar 2)]))))
    (sRet (eIf (eTB (e2 (inD false) (eC .non) (eVar 1))) (eC .non) (eCall tupD [(eVar 1)])))))
noncomputable def F_law_walk_in : List D → Sto → Res D := runD .frz 3 b_law_walk_in
theorem k_law_walk_in (T : Bt K mg) (Ee : Er K mg cl) (I : DefIn K mg "_law_walk_in" s_law_walk_in ["_law_text"]) (G_law_run_in : DefOk P w K mg base cl "_law_run_in" 4 ["_law_text"] F_law_run_in) : DefOk P w K mg base cl "_law_walk_in" 5 ["_law_text"] F_law_walk_in := by
  refine def_ok (k := 4) I c_law_walk_in fun f cdv A outer s H E hr => ?_
  have nd := c_law_walk_in.nd
  have tk : L2N.Takes (cxOf (L2N.CX P w) P w K mg base ["_law_text", "_law_found", "_law_word"] "_law_walk_in" (defScope s_law_walk_in) f cdv A outer s H E) (fun c d _ H => E c d H)   := L2N.takes_of rfl rfl rfl rfl
  have hp : PassesOwn (model P w) (cxOf (L2N.CX P w) P w K mg base ["_law_text", "_law_found", "_law_word"] "_law_walk_in" (defScope s_law_walk_in) f cdv A outer s H E).A (cxOf (L2N.CX P w) P w K mg base ["_law_text", "_law_found", "_law_word"] "_law_walk_in" (defScope s_law_walk_in) f cdv A outer s H E).env (cxOf (L2N.CX P w) P w K mg base ["_law_text", "_law_found", "_law_word"] "_law_walk_in" (defScope s_law_walk_in) f cdv A outer s H E).xe := passes_of rfl
  exact (qb_cons (qs_if (qt_eq hr (qv 0) qe_str) (qb_one (qs_ret (qe_tup qa_nil))) qb_nil)
    (qb_cons (qs_setLc (own := [("_law_word", 2)]) rfl nd rfl rfl (sw_true rfl rfl rfl (by decide +kernel)) (qi_s (qe_ano (qn_split (qv 0) qe_str))) (blkOk_by (by rfl)) (by decide) (fun _ _ _ _ _ => (qg_nm nd rfl (by first | exact Or.inl rfl | exact Or.inr rfl))) (fun _ _ _ _ _ => qts_nil) (fun _ _ _ _ _ => (qe_fn (G_law_run_in.mono (by decide)) hr (by rfl) takesN (qa_cons (qv 2) qa_nil))) imp_ano)
    (qb_one (qs_ret (qe_if (qt_in hr qe_non (qv 1)) qe_non (qe_tuple (by rfl) T.tuple (qa_cons (qv 1) qa_nil)))))))
noncomputable abbrev s_law_book_in : Stmt := topS 64
theorem c_law_book_in : FnScope ["_law_text", "_law_found", "_law_word"] ["_law_text"] (defScope s_law_book_in) := ⟨rfl, rfl, rfl, by decide +kernel, rfl, by decide +kernel, by decide +kernel⟩
noncomputable def b_law_book_in : Stm := (sSeq (sIf (eTB (e2 (eqD false) (eVar 0) (eC (.str "none")))) (sRet (eTup [])) sNext)
    (sSeq (sSet 1 (eAno (nLc [2] (.nm 2) (iS (eAno (nSplit (eVar 0) (eC (.str "; "))))) tYesD (eFn F_law_walk_in [(eVar 2)]))))
    (sRet (eIf (eTB (e2 (inD false) (eC .non) (eVar 1))) (eC .non) (eCall tupD [(eVar 1)])))))
noncomputable def F_law_book_in : List D → Sto → Res D := runD .frz 3 b_law_book_in
theorem k_law_book_in (T : Bt K mg) (Ee : Er K mg cl) (I : DefIn K mg "_law_book_in" s_law_book_in ["_law_text"]) (G_law_walk_in : DefOk P w K mg base cl "_law_walk_in" 5 ["_law_text"] F_law_walk_in) : DefOk P w K mg base cl "_law_book_in" 6 ["_law_text"] F_law_book_in := by
  refine def_ok (k := 5) I c_law_book_in fun f cdv A outer s H E hr => ?_
  have nd := c_law_book_in.nd
  have tk : L2N.Takes (cxOf (L2N.CX P w) P w K mg base ["_law_text", "_law_found", "_law_word"] "_law_book_in" (defScope s_law_book_in) f cdv A outer s H E) (fun c d _ H => E c d H)   := L2N.takes_of rfl rfl rfl rfl
  have hp : PassesOwn (model P w) (cxOf (L2N.CX P w) P w K mg base ["_law_text", "_law_found", "_law_word"] "_law_book_in" (defScope s_law_book_in) f cdv A outer s H E).A (cxOf (L2N.CX P w) P w K mg base ["_law_text", "_law_found", "_law_word"] "_law_book_in" (defScope s_law_book_in) f cdv A outer s H E).env (cxOf (L2N.CX P w) P w K mg base ["_law_text", "_law_found", "_law_word"] "_law_book_in" (defScope s_law_book_in) f cdv A outer s H E).xe := passes_of rfl
  exact (qb_cons (qs_if (qt_eq hr (qv 0) qe_str) (qb_one (qs_ret (qe_tup qa_nil))) qb_nil)
    (qb_cons (qs_setLc (own := [("_law_word", 2)]) rfl nd rfl rfl (sw_true rfl rfl rfl (by decide +kernel)) (qi_s (qe_ano (qn_split (qv 0) qe_str))) (blkOk_by (by rfl)) (by decide) (fun _ _ _ _ _ => (qg_nm nd rfl (by first | exact Or.inl rfl | exact Or.inr rfl))) (fun _ _ _ _ _ => qts_nil) (fun _ _ _ _ _ => (qe_fn (G_law_walk_in.mono (by decide)) hr (by rfl) takesN (qa_cons (qv 2) qa_nil))) imp_ano)
    (qb_one (qs_ret (qe_if (qt_in hr qe_non (qv 1)) qe_non (qe_tuple (by rfl) T.tuple (qa_cons (qv 1) qa_nil)))))))
noncomputable abbrev s_law_wanted : Stmt := topS 65
theorem c_law_wanted : FnScope ["_law_kind", "_law_text", "_law_found"] ["_law_kind", "_law_text"] (defScope s_law_wanted) := ⟨rfl, rfl, rfl, by decide +kernel, rfl, by decide +kernel, by decide +kernel⟩
noncomputable def b_law_wanted : Stm := (sSeq (sSet 2 (eC .non))
    (sSeq (sIf (eTB (e2 (eqD false) (eVar 0) (eC (.int 0)))) (sSeq (sSet 2 (eFn F_law_pair_in [(eVar 1), (eC (.str "."))]))
    (sIf (tAndD (eTB (e1 (isND true) (eVar 2))) (tOrD (tNotD (eTB (eCh leD ltD (eC (.int 0)) (e2 ixD (eVar 2) (eC (.int 0))) (eC (.int 31))))) (tNotD (eTB (eCh leD ltD (eC (.int 1)) (e2 ixD (eVar 2) (eC (.int 1))) (e2 powD (eC (.int 31)) (eC (.int 26)))))))) (sSet 2 (eC .non)) sNext)) (sIf (eTB (e2 (eqD false) (eVar 0) (eC (.int 1)))) (sSet 2 (eFn F_law_run_in [(eVar 1)])) (sSet 2 (eSel (e2 subD (eVar 0) (eC (.int 2))) F_law_walk_in F_law_book_in [(eVar 1)]))))
    (sRet (eIf (eTB (e1 (isND false) (eVar 2))) (eC (.str "NoText")) (eVar 2)))))
noncomputable def F_law_wanted : List D → Sto → Res D := runD .frz 3 b_law_wanted
theorem k_law_wanted (T : Bt K mg) (Ee : Er K mg cl) (I : DefIn K mg "_law_wanted" s_law_wanted ["_law_kind", "_law_text"]) (G_law_pair_in : DefOk P w K mg base cl "_law_pair_in" 2 ["_law_text", "_law_sign"] F_law_pair_in) (G_law_run_in : DefOk P w K mg base cl "_law_run_in" 4 ["_law_text"] F_law_run_in) (G_law_walk_in : DefOk P w K mg base cl "_law_walk_in" 5 ["_law_text"] F_law_walk_in) (G_law_book_in : DefOk P w K mg base cl "_law_book_in" 6 ["_law_text"] F_law_book_in) : DefOk P w K mg base cl "_law_wanted" 7 ["_law_kind", "_law_text"] F_law_wanted := by
  refine def_ok (k := 6) I c_law_wanted fun f cdv A outer s H E hr => ?_
  have nd := c_law_wanted.nd
  have tk : L2N.Takes (cxOf (L2N.CX P w) P w K mg base ["_law_kind", "_law_text", "_law_found"] "_law_wanted" (defScope s_law_wanted) f cdv A outer s H E) (fun c d _ H => E c d H)   := L2N.takes_of rfl rfl rfl rfl
  have hp : PassesOwn (model P w) (cxOf (L2N.CX P w) P w K mg base ["_law_kind", "_law_text", "_law_found"] "_law_wanted" (defScope s_law_wanted) f cdv A outer s H E).A (cxOf (L2N.CX P w) P w K mg base ["_law_kind", "_law_text", "_law_found"] "_law_wanted" (defScope s_law_wanted) f cdv A outer s H E).env (cxOf (L2N.CX P w) P w K mg base ["_law_kind", "_law_text", "_law_found"] "_law_wanted" (defScope s_law_wanted) f cdv A outer s H E).xe := passes_of rfl
  exact (qb_cons (qs_set nd rfl (by first | exact Or.inl rfl | exact Or.inr rfl) qe_non)
    (qb_cons (qs_if (qt_eq hr (qv 0) qe_int) (qb_cons (qs_set nd rfl (by first | exact Or.inl rfl | exact Or.inr rfl) (qe_fn (G_law_pair_in.mono (by decide)) hr (by rfl) tk (qa_cons (qv 1) (qa_cons qe_str qa_nil))))
    (qb_one (qs_if (PW.pt (qw_and (qt_notN (qv 2)) (qw_and1 (PW.pt (qw_or (qt_not (qt_lelt qe_int (qe_ix hr (qv 2) qe_int) qe_int)) (qw_or1 (qt_not (qt_lelt qe_int (qe_ix hr (qv 2) qe_int) (qe_pow qe_int qe_int))))))))) (qb_one (qs_set nd rfl (by first | exact Or.inl rfl | exact Or.inr rfl) qe_non)) qb_nil))) (qb_one (qs_if (qt_eq hr (qv 0) qe_int) (qb_one (qs_set nd rfl (by first | exact Or.inl rfl | exact Or.inr rfl) (qe_fn (G_law_run_in.mono (by decide)) hr (by rfl) tk (qa_cons (qv 1) qa_nil)))) (qb_one (qs_set nd rfl (by first | exact Or.inl rfl | exact Or.inr rfl) (qe_sel (G_law_walk_in.mono (by decide)) (G_law_book_in.mono (by decide)) hr (by rfl) (by rfl) tk (qe_sub (qv 0) qe_int) (qa_cons (qv 1) qa_nil)))))))
    (qb_one (qs_ret (qe_if (qt_isN (qv 2)) qe_str (qv 2))))))
noncomputable abbrev s_law_read : Stmt := topS 66
theorem c_law_read : FnScope ["_law_kind", "_law_text", "_law_e"] ["_law_kind", "_law_text"] (defScope s_law_read) := ⟨rfl, rfl, rfl, by decide +kernel, rfl, by decide +kernel, by decide +kernel⟩
noncomputable def b_law_read : Stm := (sTry [("NoText", true)] 2 (sSeq (sIf (eTB (e2 (eqD false) (eVar 0) (eC (.int 0)))) (sRet (eFn Fread_address [(eVar 1)])) sNext)
    (sSeq (sIf (eTB (e2 (eqD false) (eVar 0) (eC (.int 1)))) (sRet (eFn Fread_run [(eVar 1)])) sNext)
    (sSeq (sIf (eTB (e2 (eqD false) (eVar 0) (eC (.int 2)))) (sRet (eFn Fread_walk [(eVar 1)])) sNext)
    (sRet (eFn Fread_book [(eVar 1)]))))) (fun _ => (sRet (eC (.str "NoText")))))
noncomputable def F_law_read : List D → Sto → Res D := runD .frz 3 b_law_read
theorem k_law_read (T : Bt K mg) (Ee : Er K mg cl) (I : DefIn K mg "_law_read" s_law_read ["_law_kind", "_law_text"]) (Gread_book : DefOk P w K mg base cl "read_book" 6 ["text"] Fread_book) (Gread_address : DefOk P w K mg base cl "read_address" 5 ["text"] Fread_address) (Gread_run : DefOk P w K mg base cl "read_run" 5 ["text"] Fread_run) (Gread_walk : DefOk P w K mg base cl "read_walk" 6 ["text"] Fread_walk) (H_law_is_no_text_NoText : DefE P w K mg base cl "_law_is_no_text" 1 ["_law_e"] "NoText" true) : DefOk P w K mg base cl "_law_read" 7 ["_law_kind", "_law_text"] F_law_read := by
  refine def_ok (k := 6) I c_law_read fun f cdv A outer s H E hr => ?_
  have nd := c_law_read.nd
  have tk : L2N.Takes (cxOf (L2N.CX P w) P w K mg base ["_law_kind", "_law_text", "_law_e"] "_law_read" (defScope s_law_read) f cdv A outer s H E) (fun c d _ H => E c d H)   := L2N.takes_of rfl rfl rfl rfl
  have hp : PassesOwn (model P w) (cxOf (L2N.CX P w) P w K mg base ["_law_kind", "_law_text", "_law_e"] "_law_read" (defScope s_law_read) f cdv A outer s H E).A (cxOf (L2N.CX P w) P w K mg base ["_law_kind", "_law_text", "_law_e"] "_law_read" (defScope s_law_read) f cdv A outer s H E).env (cxOf (L2N.CX P w) P w K mg base ["_law_kind", "_law_text", "_law_e"] "_law_read" (defScope s_law_read) f cdv A outer s H E).xe := passes_of rfl
  exact (qb_one (qs_try (ks := [("NoText", true)]) rfl rfl nd rfl rfl ⟨by rfl, by decide, .inl Ee.c_LetterError.g⟩ tk (fun W0 pn xe tk hp => (qb_cons (qs_if (qt_eq hr (qv 0) qe_int) (qb_one (qs_ret (qe_fn (Gread_address.mono (by decide)) hr (by rfl) tk (qa_cons (qv 1) qa_nil)))) qb_nil)
    (qb_cons (qs_if (qt_eq hr (qv 0) qe_int) (qb_one (qs_ret (qe_fn (Gread_run.mono (by decide)) hr (by rfl) tk (qa_cons (qv 1) qa_nil)))) qb_nil)
    (qb_cons (qs_if (qt_eq hr (qv 0) qe_int) (qb_one (qs_ret (qe_fn (Gread_walk.mono (by decide)) hr (by rfl) tk (qa_cons (qv 1) qa_nil)))) qb_nil)
    (qb_one (qs_ret (qe_fn (Gread_book.mono (by decide)) hr (by rfl) tk (qa_cons (qv 1) qa_nil))))))))
    (kc_cons (PySem.W.exm_ref Ee.c_LetterError.b Ee.c_LetterError.d Ee.c_LetterError.t Ee.s_NoText_LetterError) kc_nil)
    (kc_cons (fun _ => qh_retS (by rfl) T.int fun a oe pn hz hf => (he_fn hz hf List.mem_cons_self rfl (H_law_is_no_text_NoText.mono (by decide)) rfl (roomH_mark hr) (by rfl) (pv 2))) kc_nil)))
noncomputable abbrev slaw : Stmt := topS 67
theorem claw : FnScope ["_law_script", "_law_k", "_law_purse_here", "_law_is_far", "_law_one", "_law_book", "_law_walk", "_law_things", "_law_written", "_law_texts", "_law_short", "_law_text", "_law_kind", "_law_odd", "_law_again"] ["_law_script"] (defScope slaw) := ⟨rfl, rfl, rfl, by decide +kernel, rfl, by decide +kernel, by decide +kernel⟩
noncomputable def blaw_1 : Stm := (sIf (eTB (e2 (eqD true) (eFn F_law_read [(eVar 12), (eVar 11)]) (eFn F_law_wanted [(eVar 12), (eVar 11)]))) (sRet (eC (.bl false))) sNext)
noncomputable def blaw_2 : Stm := (sFor [] (.nm 12) (iR1 (eC (.int 4))) blaw_1)
noncomputable def blaw_3 : Stm := (sSeq (sSet 2 (eFn F_law_purse [(eVar 0), (eVar 1)]))
    (sSeq (sSet 3 (e2 (eqD false) (eFn F_law_draw [(eVar 2), (eC (.int 2))]) (eC (.int 1))))
    (sSeq (sSet 4 (eFn F_law_run [(eVar 2), (eC (.int 31)), (eVar 3)]))
    (sSeq (sSet 5 (eFn F_law_walks [(eVar 2), (eVar 3)]))
    (sSeq (sSet 6 (e2 ixD (e2 addD (eVar 5) (eTup [(eTup [(eVar 4)])])) (eFn F_law_draw [(eVar 2), (e2 addD (eCall lenD [(eVar 5)]) (eC (.int 1)))])))
    (sSeq (sSet 7 (eAno (nLst [(eSl (eVar 4) pN (pE (eC (.int 2)))), (eVar 4), (eVar 6), (eVar 5)])))
    (sSeq (sSet 8 (eAno (nLst [(eFn F_law_address_text [(eSl (eVar 4) pN (pE (eC (.int 2))))]), (eFn F_law_run_text [(eVar 4)]), (eFn F_law_walk_text [(eVar 6)]), (eFn F_law_book_text [(eVar 5)])])))
    (sSeq (sIf (eTB (e2 (eqD true) (eAno (nLst [(eFn Fshow_address [(eSl (eVar 4) pN (pE (eC (.int 2))))]), (eFn Fshow_run [(eVar 4)]), (eFn Fshow_walk [(eVar 6)]), (eFn Fshow_book [(eVar 5)])])) (eVar 8))) (sRet (eC (.bl false))) sNext)
    (sSeq (sIf (eTB (e2 (eqD true) (eAno (nLc [12] (.nm 12) (iR1 (eC (.int 4))) tYesD (eFn F_law_read [(eVar 12), (e2 ixD (eVar 8) (eVar 12))]))) (eVar 7))) (sRet (eC (.bl false))) sNext)
    (sSeq (sSet 9 (eNew (nLc [14] (.nm 14) (iR1 (eC (.int 8))) tYesD (eFn F_law_bent_text [(eVar 2), (e2 ixD (eVar 8) (e2 modD (eVar 14) (eC (.int 4))))]))))
    (sSeq (sSet 10 (eAno (nLst [(eC (.str "")), (eC (.str "-")), (eC (.str "none")), (eC (.str "0.0")), (eC (.str "31.1")), (eC (.str "0.1 to 2 by 2")), (eC (.str "-, -")), (eC (.str "-; -")), (eC (.str "0.1 to 1 by 0"))])))
    (sSeq (sExpr (eM "list" appD (eVar 9) [(e2 ixD (eVar 10) (eFn F_law_draw [(eVar 2), (eC (.int 9))]))]))
    (sSeq (sFgt [11] (sFor [11] (.nm 11) (iS (eVar 9)) blaw_2))
    (sSeq (sSet 13 (e2 ixD (eAno (nLst [(eC .non), (eC (.int 7)), (eC (.bl true)), (eTup [(eC (.str "-"))]), (eAno (nLst [(eC (.str "-"))])), (eTup [(eC (.int 0)), (eC (.int 1))])])) (eFn F_law_draw [(eVar 2), (eC (.int 6))])))
    (sIf (eTB (e2 (eqD true) (eAno (nLc [12] (.nm 12) (iR1 (eC (.int 4))) tYesD (eFn F_law_read [(eVar 12), (eVar 13)]))) (e2 mulD (eAno (nLst [(eC (.str "NoText"))])) (eC (.int 4))))) (sRet (eC (.bl false))) sNext)))))))))))))))
noncomputable def blaw : Stm := (sSeq (sFgt [1, 2, 3, 4, 5, 6, 7, 8, 9, 10, 11, 12, 13] (sFor [1, 2, 3, 4, 5, 6, 7, 8, 9, 10, 11, 13] (.nm 1) (iS (eFn F_law_many [(eVar 0), (eC (.int 4))])) blaw_3))
    (sRet (eC (.bl true))))
noncomputable def Flaw : List D → Sto → Res D := runD .frz 15 blaw
theorem klaw (T : Bt K mg) (Ee : Er K mg cl) (I : DefIn K mg "law" slaw ["_law_script"]) (G_law_many : DefOk P w K mg base cl "_law_many" 1 ["_law_script", "_law_most"] F_law_many) (G_law_purse : DefOk P w K mg base cl "_law_purse" 1 ["_law_script", "_law_at"] F_law_purse) (G_law_run : DefOk P w K mg base cl "_law_run" 2 ["_law_purse_here", "_law_streets", "_law_is_far"] F_law_run) (G_law_walks : DefOk P w K mg base cl "_law_walks" 3 ["_law_purse_here", "_law_is_far"] F_law_walks) (G_law_draw : DefOk P w K mg base cl "_law_draw" 1 ["_law_purse_here", "_law_many_here"] F_law_draw) (G_law_address_text : DefOk P w K mg base cl "_law_address_text" 1 ["_law_one"] F_law_address_text) (G_law_run_text : DefOk P w K mg base cl "_law_run_text" 2 ["_law_one"] F_law_run_text) (G_law_walk_text : DefOk P w K mg base cl "_law_walk_text" 3 ["_law_one"] F_law_walk_text) (G_law_book_text : DefOk P w K mg base cl "_law_book_text" 4 ["_law_one"] F_law_book_text) (G_law_bent_text : DefOk P w K mg base cl "_law_bent_text" 2 ["_law_purse_here", "_law_text"] F_law_bent_text) (Gshow_address : DefOk P w K mg base cl "show_address" 1 ["one"] Fshow_address) (Gshow_run : DefOk P w K mg base cl "show_run" 2 ["one"] Fshow_run) (Gshow_walk : DefOk P w K mg base cl "show_walk" 3 ["one"] Fshow_walk) (Gshow_book : DefOk P w K mg base cl "show_book" 4 ["one"] Fshow_book) (G_law_read : DefOk P w K mg base cl "_law_read" 7 ["_law_kind", "_law_text"] F_law_read) (G_law_wanted : DefOk P w K mg base cl "_law_wanted" 7 ["_law_kind", "_law_text"] F_law_wanted) : DefOk P w K mg base cl "law" 8 ["_law_script"] Flaw := by
  refine def_ok (k := 7) I claw fun f cdv A outer s H E hr => ?_
  have nd := claw.nd
  have tk : L2N.Takes (cxOf (L2N.CX P w) P w K mg base ["_law_script", "_law_k", "_law_purse_here", "_law_is_far", "_law_one", "_law_book", "_law_walk", "_law_things", "_law_written", "_law_texts", "_law_short", "_law_text", "_law_kind", "_law_odd", "_law_again"] "law" (defScope slaw) f cdv A outer s H E) (fun c d _ H => E c d H)   := L2N.takes_of rfl rfl rfl rfl
  have hp : PassesOwn (model P w) (cxOf (L2N.CX P w) P w K mg base ["_law_script", "_law_k", "_law_purse_here", "_law_is_far", "_law_one", "_law_book", "_law_walk", "_law_things", "_law_written", "_law_texts", "_law_short", "_law_text", "_law_kind", "_law_odd", "_law_again"] "law" (defScope slaw) f cdv A outer s H E).A (cxOf (L2N.CX P w) P w K mg base ["_law_script", "_law_k", "_law_purse_here", "_law_is_far", "_law_one", "_law_book", "_law_walk", "_law_things", "_law_written", "_law_texts", "_law_short", "_law_text", "_law_kind", "_law_odd", "_law_again"] "law" (defScope slaw) f cdv A outer s H E).env (cxOf (L2N.CX P w) P w K mg base ["_law_script", "_law_k", "_law_purse_here", "_law_is_far", "_law_one", "_law_book", "_law_walk", "_law_things", "_law_written", "_law_texts", "_law_short", "_law_text", "_law_kind", "_law_odd", "_law_again"] "law" (defScope slaw) f cdv A outer s H E).xe := passes_of rfl
  exact (qb_cons (qs_fgt [1, 2, 3, 4, 5, 6, 7, 8, 9, 10, 11, 12, 13] (qs_for [1, 2, 3, 4, 5, 6, 7, 8, 9, 10, 11, 13] hp rfl (qi_s (qe_fn (G_law_many.mono (by decide)) hr (by rfl) tk (qa_cons (qv 0) (qa_cons qe_int qa_nil)))) (qg_nm nd rfl (by first | exact Or.inl rfl | exact Or.inr rfl))
    (qb_cons (qs_set nd rfl (by first | exact Or.inl rfl | exact Or.inr rfl) (qe_fn (G_law_purse.mono (by decide)) hr (by rfl) tk (qa_cons (qv 0) (qa_cons (qv 1) qa_nil))))
    (qb_cons (qs_set nd rfl (by first | exact Or.inl rfl | exact Or.inr rfl) (qe_eq hr (qe_fn (G_law_draw.mono (by decide)) hr (by rfl) tk (qa_cons (qv 2) (qa_cons qe_int qa_nil))) qe_int))
    (qb_cons (qs_set nd rfl (by first | exact Or.inl rfl | exact Or.inr rfl) (qe_fn (G_law_run.mono (by decide)) hr (by rfl) tk (qa_cons (qv 2) (qa_cons qe_int (qa_cons (qv 3) qa_nil)))))
    (qb_cons (qs_set nd rfl (by first | exact Or.inl rfl | exact Or.inr rfl) (qe_fn (G_law_walks.mono (by decide)) hr (by rfl) tk (qa_cons (qv 2) (qa_cons (qv 3) qa_nil))))
    (qb_cons (qs_set nd rfl (by first | exact Or.inl rfl | exact Or.inr rfl) (qe_ix hr (qe_add (qv 5) (qe_tup (qa_cons (qe_tup (qa_cons (qv 4) qa_nil)) qa_nil))) (qe_fn (G_law_draw.mono (by decide)) hr (by rfl) tk (qa_cons (qv 2) (qa_cons (qe_add (qe_len (by rfl) T.len (qa_cons (qv 5) qa_nil)) qe_int) qa_nil)))))
    (qb_cons (qs_set nd rfl (by first | exact Or.inl rfl | exact Or.inr rfl) (qe_ano (qn_lst (qa_cons (qe_sl (qv 4) qp_n (qp_e qe_int)) (qa_cons (qv 4) (qa_cons (qv 6) (qa_cons (qv 5) qa_nil)))))))
    (qb_cons (qs_set nd rfl (by first | exact Or.inl rfl | exact Or.inr rfl) (qe_ano (qn_lst (qa_cons (qe_fn (G_law_address_text.mono (by decide)) hr (by rfl) tk (qa_cons (qe_sl (qv 4) qp_n (qp_e qe_int)) qa_nil)) (qa_cons (qe_fn (G_law_run_text.mono (by decide)) hr (by rfl) tk (qa_cons (qv 4) qa_nil)) (qa_cons (qe_fn (G_law_walk_text.mono (by decide)) hr (by rfl) tk (qa_cons (qv 6) qa_nil)) (qa_cons (qe_fn (G_law_book_text.mono (by decide)) hr (by rfl) tk (qa_cons (qv 5) qa_nil)) qa_nil)))))))
    (qb_cons (qs_if (qt_ne hr (qe_ano (qn_lst (qa_cons (qe_fn (Gshow_address.mono (by decide)) hr (by rfl) tk (qa_cons (qe_sl (qv 4) qp_n (qp_e qe_int)) qa_nil)) (qa_cons (qe_fn (Gshow_run.mono (by decide)) hr (by rfl) tk (qa_cons (qv 4) qa_nil)) (qa_cons (qe_fn (Gshow_walk.mono (by decide)) hr (by rfl) tk (qa_cons (qv 6) qa_nil)) (qa_cons (qe_fn (Gshow_book.mono (by decide)) hr (by rfl) tk (qa_cons (qv 5) qa_nil)) qa_nil)))))) (qv 8)) (qb_one (qs_ret qe_bl)) qb_nil)
    (qb_cons (qs_if (qt_ne hr (qe_ano (qn_lc (own := [("_law_kind", 12)]) rfl nd (qi_r1 (by rfl) T.range qe_int) (blkOk_by (by rfl)) (by decide) (fun _ _ _ _ _ => (qg_nm nd rfl (by first | exact Or.inl rfl | exact Or.inr rfl))) (fun _ _ _ _ _ => qts_nil) (fun _ _ _ _ _ => (qe_fn (G_law_read.mono (by decide)) hr (by rfl) takesN (qa_cons (qv 12) (qa_cons (qe_ix hr (qv 8) (qv 12)) qa_nil)))))) (qv 7)) (qb_one (qs_ret qe_bl)) qb_nil)
    (qb_cons (qs_setLc (own := [("_law_again", 14)]) rfl nd rfl rfl (sw_true rfl rfl rfl (by decide +kernel)) (qi_r1 (by rfl) T.range qe_int) (blkOk_by (by rfl)) (by decide) (fun _ _ _ _ _ => (qg_nm nd rfl (by first | exact Or.inl rfl | exact Or.inr rfl))) (fun _ _ _ _ _ => qts_nil) (fun _ _ _ _ _ => (qe_fn (G_law_bent_text.mono (by decide)) hr (by rfl) takesN (qa_cons (qv 2) (qa_cons (qe_ix hr (qv 8) (qe_mod (qv 14) qe_int)) qa_nil)))) imp_new)
    (qb_cons (qs_set nd rfl (by first | exact Or.inl rfl | exact Or.inr rfl) (qe_ano (qn_lst (qa_cons qe_str (qa_cons qe_str (qa_cons qe_str (qa_cons qe_str (qa_cons qe_str (qa_cons qe_str (qa_cons qe_str (qa_cons qe_str (qa_cons qe_str qa_nil))))))))))))
    (qb_cons (qs_expr (qe_append (qv 9) (qe_ix hr (qv 10) (qe_fn (G_law_draw.mono (by decide)) hr (by rfl) tk (qa_cons (qv 2) (qa_cons qe_int qa_nil))))))
    (qb_cons (qs_fgt [11] (qs_for [11] hp rfl (qi_s (qv 9)) (qg_nm nd rfl (by first | exact Or.inl rfl | exact Or.inr rfl))
    (qb_one (qs_for [] hp rfl (qi_r1 (by rfl) T.range qe_int) (qg_nm nd rfl (by first | exact Or.inl rfl | exact Or.inr rfl))
    (qb_one (qs_if (qt_ne hr (qe_fn (G_law_read.mono (by decide)) hr (by rfl) tk (qa_cons (qv 12) (qa_cons (qv 11) qa_nil))) (qe_fn (G_law_wanted.mono (by decide)) hr (by rfl) tk (qa_cons (qv 12) (qa_cons (qv 11) qa_nil)))) (qb_one (qs_ret qe_bl)) qb_nil))))))
    (qb_cons (qs_set nd rfl (by first | exact Or.inl rfl | exact Or.inr rfl) (qe_ix hr (qe_ano (qn_lst (qa_cons qe_non (qa_cons qe_int (qa_cons qe_bl (qa_cons (qe_tup (qa_cons qe_str qa_nil)) (qa_cons (qe_ano (qn_lst (qa_cons qe_str qa_nil))) (qa_cons (qe_tup (qa_cons qe_int (qa_cons qe_int qa_nil))) qa_nil)))))))) (qe_fn (G_law_draw.mono (by decide)) hr (by rfl) tk (qa_cons (qv 2) (qa_cons qe_int qa_nil)))))
    (qb_one (qs_if (qt_ne hr (qe_ano (qn_lc (own := [("_law_kind", 12)]) rfl nd (qi_r1 (by rfl) T.range qe_int) (blkOk_by (by rfl)) (by decide) (fun _ _ _ _ _ => (qg_nm nd rfl (by first | exact Or.inl rfl | exact Or.inr rfl))) (fun _ _ _ _ _ => qts_nil) (fun _ _ _ _ _ => (qe_fn (G_law_read.mono (by decide)) hr (by rfl) takesN (qa_cons (qv 12) (qa_cons (qv 13) qa_nil)))))) (qe_mul (qe_ano (qn_lst (qa_cons qe_str qa_nil))) qe_int)) (qb_one (qs_ret qe_bl)) qb_nil))))))))))))))))))
    (qb_one (qs_ret qe_bl)))
end
theorem all_ok {l : PySem.W.OpenLaw} {w : World} {K : PySem.W.Frag} {h : Heap} {mg : Str → Option Value} {fa : Addr} (X : K.In h) (G : h.Ns mainGlobals mg) (hfa : mg "law" = some (.ref fa))
    {f0 : Addr} {od0 an0 : Option Addr} {sl0 : Array (Option Value)} {oc0 kV0 dc0 pm0 cd0 ct0 : Value}
    (a0 : PySem.W.nsIn K mainGlobals "is_whole" = some (some (.ref f0))) (l0 : K.lookup f0 = some ⟨oc0, od0, .func (PySem.W.fnOf "is_whole" "is_whole" (defArgs sis_whole) (defBody sis_whole) (defScope sis_whole) .none kV0 dc0 pm0 an0 cd0 ct0), sl0⟩) (c0 : PySem.W.codeIn K cd0 "is_whole" = true) (k0 : PySem.W.keepIn K (.ref f0) = true)
    {f1 : Addr} {od1 an1 : Option Addr} {sl1 : Array (Option Value)} {oc1 kV1 dc1 pm1 cd1 ct1 : Value}
    (a1 : PySem.W.nsIn K mainGlobals "is_street" = some (some (.ref f1))) (l1 : K.lookup f1 = some ⟨oc1, od1, .func (PySem.W.fnOf "is_street" "is_street" (defArgs sis_street) (defBody sis_street) (defScope sis_street) .none kV1 dc1 pm1 an1 cd1 ct1), sl1⟩) (c1 : PySem.W.codeIn K cd1 "is_street" = true) (k1 : PySem.W.keepIn K (.ref f1) = true)
    {f2 : Addr} {od2 an2 : Option Addr} {sl2 : Array (Option Value)} {oc2 kV2 dc2 pm2 cd2 ct2 : Value}
    (a2 : PySem.W.nsIn K mainGlobals "is_house" = some (some (.ref f2))) (l2 : K.lookup f2 = some ⟨oc2, od2, .func (PySem.W.fnOf "is_house" "is_house" (defArgs sis_house) (defBody sis_house) (defScope sis_house) .none kV2 dc2 pm2 an2 cd2 ct2), sl2⟩) (c2 : PySem.W.codeIn K cd2 "is_house" = true) (k2 : PySem.W.keepIn K (.ref f2) = true)
    {f3 : Addr} {od3 an3 : Option Addr} {sl3 : Array (Option Value)} {oc3 kV3 dc3 pm3 cd3 ct3 : Value}
    (a3 : PySem.W.nsIn K mainGlobals "is_address" = some (some (.ref f3))) (l3 : K.lookup f3 = some ⟨oc3, od3, .func (PySem.W.fnOf "is_address" "is_address" (defArgs sis_address) (defBody sis_address) (defScope sis_address) .none kV3 dc3 pm3 an3 cd3 ct3), sl3⟩) (c3 : PySem.W.codeIn K cd3 "is_address" = true) (k3 : PySem.W.keepIn K (.ref f3) = true)
    {f4 : Addr} {od4 an4 : Option Addr} {sl4 : Array (Option Value)} {oc4 kV4 dc4 pm4 cd4 ct4 : Value}
    (a4 : PySem.W.nsIn K mainGlobals "is_reached" = some (some (.ref f4))) (l4 : K.lookup f4 = some ⟨oc4, od4, .func (PySem.W.fnOf "is_reached" "is_reached" (defArgs sis_reached) (defBody sis_reached) (defScope sis_reached) .none kV4 dc4 pm4 an4 cd4 ct4), sl4⟩) (c4 : PySem.W.codeIn K cd4 "is_reached" = true) (k4 : PySem.W.keepIn K (.ref f4) = true)
    {f5 : Addr} {od5 an5 : Option Addr} {sl5 : Array (Option Value)} {oc5 kV5 dc5 pm5 cd5 ct5 : Value}
    (a5 : PySem.W.nsIn K mainGlobals "is_run" = some (some (.ref f5))) (l5 : K.lookup f5 = some ⟨oc5, od5, .func (PySem.W.fnOf "is_run" "is_run" (defArgs sis_run) (defBody sis_run) (defScope sis_run) .none kV5 dc5 pm5 an5 cd5 ct5), sl5⟩) (c5 : PySem.W.codeIn K cd5 "is_run" = true) (k5 : PySem.W.keepIn K (.ref f5) = true)
    {f6 : Addr} {od6 an6 : Option Addr} {sl6 : Array (Option Value)} {oc6 kV6 dc6 pm6 cd6 ct6 : Value}
    (a6 : PySem.W.nsIn K mainGlobals "show_address" = some (some (.ref f6))) (l6 : K.lookup f6 = some ⟨oc6, od6, .func (PySem.W.fnOf "show_address" "show_address" (defArgs sshow_address) (defBody sshow_address) (defScope sshow_address) .none kV6 dc6 pm6 an6 cd6 ct6), sl6⟩) (c6 : PySem.W.codeIn K cd6 "show_address" = true) (k6 : PySem.W.keepIn K (.ref f6) = true)
    {f7 : Addr} {od7 an7 : Option Addr} {sl7 : Array (Option Value)} {oc7 kV7 dc7 pm7 cd7 ct7 : Value}
    (a7 : PySem.W.nsIn K mainGlobals "show_run" = some (some (.ref f7))) (l7 : K.lookup f7 = some ⟨oc7, od7, .func (PySem.W.fnOf "show_run" "show_run" (defArgs sshow_run) (defBody sshow_run) (defScope sshow_run) .none kV7 dc7 pm7 an7 cd7 ct7), sl7⟩) (c7 : PySem.W.codeIn K cd7 "show_run" = true) (k7 : PySem.W.keepIn K (.ref f7) = true)
    {f8 : Addr} {od8 an8 : Option Addr} {sl8 : Array (Option Value)} {oc8 kV8 dc8 pm8 cd8 ct8 : Value}
    (a8 : PySem.W.nsIn K mainGlobals "show_walk" = some (some (.ref f8))) (l8 : K.lookup f8 = some ⟨oc8, od8, .func (PySem.W.fnOf "show_walk" "show_walk" (defArgs sshow_walk) (defBody sshow_walk) (defScope sshow_walk) .none kV8 dc8 pm8 an8 cd8 ct8), sl8⟩) (c8 : PySem.W.codeIn K cd8 "show_walk" = true) (k8 : PySem.W.keepIn K (.ref f8) = true)
    {f9 : Addr} {od9 an9 : Option Addr} {sl9 : Array (Option Value)} {oc9 kV9 dc9 pm9 cd9 ct9 : Value}
    (a9 : PySem.W.nsIn K mainGlobals "show_book" = some (some (.ref f9))) (l9 : K.lookup f9 = some ⟨oc9, od9, .func (PySem.W.fnOf "show_book" "show_book" (defArgs sshow_book) (defBody sshow_book) (defScope sshow_book) .none kV9 dc9 pm9 an9 cd9 ct9), sl9⟩) (c9 : PySem.W.codeIn K cd9 "show_book" = true) (k9 : PySem.W.keepIn K (.ref f9) = true)
    {f10 : Addr} {od10 an10 : Option Addr} {sl10 : Array (Option Value)} {oc10 kV10 dc10 pm10 cd10 ct10 : Value}
    (a10 : PySem.W.nsIn K mainGlobals "must" = some (some (.ref f10))) (l10 : K.lookup f10 = some ⟨oc10, od10, .func (PySem.W.fnOf "must" "must" (defArgs smust) (defBody smust) (defScope smust) .none kV10 dc10 pm10 an10 cd10 ct10), sl10⟩) (c10 : PySem.W.codeIn K cd10 "must" = true) (k10 : PySem.W.keepIn K (.ref f10) = true)
    {f11 : Addr} {od11 an11 : Option Addr} {sl11 : Array (Option Value)} {oc11 kV11 dc11 pm11 cd11 ct11 : Value}
    (a11 : PySem.W.nsIn K mainGlobals "must_be_text" = some (some (.ref f11))) (l11 : K.lookup f11 = some ⟨oc11, od11, .func (PySem.W.fnOf "must_be_text" "must_be_text" (defArgs smust_be_text) (defBody smust_be_text) (defScope smust_be_text) .none kV11 dc11 pm11 an11 cd11 ct11), sl11⟩) (c11 : PySem.W.codeIn K cd11 "must_be_text" = true) (k11 : PySem.W.keepIn K (.ref f11) = true)
    {f12 : Addr} {od12 an12 : Option Addr} {sl12 : Array (Option Value)} {oc12 kV12 dc12 pm12 cd12 ct12 : Value}
    (a12 : PySem.W.nsIn K mainGlobals "whole_in" = some (some (.ref f12))) (l12 : K.lookup f12 = some ⟨oc12, od12, .func (PySem.W.fnOf "whole_in" "whole_in" (defArgs swhole_in) (defBody swhole_in) (defScope swhole_in) .none kV12 dc12 pm12 an12 cd12 ct12), sl12⟩) (c12 : PySem.W.codeIn K cd12 "whole_in" = true) (k12 : PySem.W.keepIn K (.ref f12) = true)
    {f13 : Addr} {od13 an13 : Option Addr} {sl13 : Array (Option Value)} {oc13 kV13 dc13 pm13 cd13 ct13 : Value}
    (a13 : PySem.W.nsIn K mainGlobals "pair_in" = some (some (.ref f13))) (l13 : K.lookup f13 = some ⟨oc13, od13, .func (PySem.W.fnOf "pair_in" "pair_in" (defArgs spair_in) (defBody spair_in) (defScope spair_in) .none kV13 dc13 pm13 an13 cd13 ct13), sl13⟩) (c13 : PySem.W.codeIn K cd13 "pair_in" = true) (k13 : PySem.W.keepIn K (.ref f13) = true)
    {f14 : Addr} {od14 an14 : Option Addr} {sl14 : Array (Option Value)} {oc14 kV14 dc14 pm14 cd14 ct14 : Value}
    (a14 : PySem.W.nsIn K mainGlobals "address_in" = some (some (.ref f14))) (l14 : K.lookup f14 = some ⟨oc14, od14, .func (PySem.W.fnOf "address_in" "address_in" (defArgs saddress_in) (defBody saddress_in) (defScope saddress_in) .none kV14 dc14 pm14 an14 cd14 ct14), sl14⟩) (c14 : PySem.W.codeIn K cd14 "address_in" = true) (k14 : PySem.W.keepIn K (.ref f14) = true)
    {f15 : Addr} {od15 an15 : Option Addr} {sl15 : Array (Option Value)} {oc15 kV15 dc15 pm15 cd15 ct15 : Value}
    (a15 : PySem.W.nsIn K mainGlobals "run_in" = some (some (.ref f15))) (l15 : K.lookup f15 = some ⟨oc15, od15, .func (PySem.W.fnOf "run_in" "run_in" (defArgs srun_in) (defBody srun_in) (defScope srun_in) .none kV15 dc15 pm15 an15 cd15 ct15), sl15⟩) (c15 : PySem.W.codeIn K cd15 "run_in" = true) (k15 : PySem.W.keepIn K (.ref f15) = true)
    {f16 : Addr} {od16 an16 : Option Addr} {sl16 : Array (Option Value)} {oc16 kV16 dc16 pm16 cd16 ct16 : Value}
    (a16 : PySem.W.nsIn K mainGlobals "walk_in" = some (some (.ref f16))) (l16 : K.lookup f16 = some ⟨oc16, od16, .func (PySem.W.fnOf "walk_in" "walk_in" (defArgs swalk_in) (defBody swalk_in) (defScope swalk_in) .none kV16 dc16 pm16 an16 cd16 ct16), sl16⟩) (c16 : PySem.W.codeIn K cd16 "walk_in" = true) (k16 : PySem.W.keepIn K (.ref f16) = true)
    {f17 : Addr} {od17 an17 : Option Addr} {sl17 : Array (Option Value)} {oc17 kV17 dc17 pm17 cd17 ct17 : Value}
    (a17 : PySem.W.nsIn K mainGlobals "read_address" = some (some (.ref f17))) (l17 : K.lookup f17 = some ⟨oc17, od17, .func (PySem.W.fnOf "read_address" "read_address" (defArgs sread_address) (defBody sread_address) (defScope sread_address) .none kV17 dc17 pm17 an17 cd17 ct17), sl17⟩) (c17 : PySem.W.codeIn K cd17 "read_address" = true) (k17 : PySem.W.keepIn K (.ref f17) = true)
    {f18 : Addr} {od18 an18 : Option Addr} {sl18 : Array (Option Value)} {oc18 kV18 dc18 pm18 cd18 ct18 : Value}
    (a18 : PySem.W.nsIn K mainGlobals "read_run" = some (some (.ref f18))) (l18 : K.lookup f18 = some ⟨oc18, od18, .func (PySem.W.fnOf "read_run" "read_run" (defArgs sread_run) (defBody sread_run) (defScope sread_run) .none kV18 dc18 pm18 an18 cd18 ct18), sl18⟩) (c18 : PySem.W.codeIn K cd18 "read_run" = true) (k18 : PySem.W.keepIn K (.ref f18) = true)
    {f19 : Addr} {od19 an19 : Option Addr} {sl19 : Array (Option Value)} {oc19 kV19 dc19 pm19 cd19 ct19 : Value}
    (a19 : PySem.W.nsIn K mainGlobals "read_walk" = some (some (.ref f19))) (l19 : K.lookup f19 = some ⟨oc19, od19, .func (PySem.W.fnOf "read_walk" "read_walk" (defArgs sread_walk) (defBody sread_walk) (defScope sread_walk) .none kV19 dc19 pm19 an19 cd19 ct19), sl19⟩) (c19 : PySem.W.codeIn K cd19 "read_walk" = true) (k19 : PySem.W.keepIn K (.ref f19) = true)
    {f20 : Addr} {od20 an20 : Option Addr} {sl20 : Array (Option Value)} {oc20 kV20 dc20 pm20 cd20 ct20 : Value}
    (a20 : PySem.W.nsIn K mainGlobals "read_book" = some (some (.ref f20))) (l20 : K.lookup f20 = some ⟨oc20, od20, .func (PySem.W.fnOf "read_book" "read_book" (defArgs sread_book) (defBody sread_book) (defScope sread_book) .none kV20 dc20 pm20 an20 cd20 ct20), sl20⟩) (c20 : PySem.W.codeIn K cd20 "read_book" = true) (k20 : PySem.W.keepIn K (.ref f20) = true)
    {f21 : Addr} {od21 an21 : Option Addr} {sl21 : Array (Option Value)} {oc21 kV21 dc21 pm21 cd21 ct21 : Value}
    (a21 : PySem.W.nsIn K mainGlobals "_law_purse" = some (some (.ref f21))) (l21 : K.lookup f21 = some ⟨oc21, od21, .func (PySem.W.fnOf "_law_purse" "_law_purse" (defArgs s_law_purse) (defBody s_law_purse) (defScope s_law_purse) .none kV21 dc21 pm21 an21 cd21 ct21), sl21⟩) (c21 : PySem.W.codeIn K cd21 "_law_purse" = true) (k21 : PySem.W.keepIn K (.ref f21) = true)
    {f22 : Addr} {od22 an22 : Option Addr} {sl22 : Array (Option Value)} {oc22 kV22 dc22 pm22 cd22 ct22 : Value}
    (a22 : PySem.W.nsIn K mainGlobals "_law_draw" = some (some (.ref f22))) (l22 : K.lookup f22 = some ⟨oc22, od22, .func (PySem.W.fnOf "_law_draw" "_law_draw" (defArgs s_law_draw) (defBody s_law_draw) (defScope s_law_draw) .none kV22 dc22 pm22 an22 cd22 ct22), sl22⟩) (c22 : PySem.W.codeIn K cd22 "_law_draw" = true) (k22 : PySem.W.keepIn K (.ref f22) = true)
    {f23 : Addr} {od23 an23 : Option Addr} {sl23 : Array (Option Value)} {oc23 kV23 dc23 pm23 cd23 ct23 : Value}
    (a23 : PySem.W.nsIn K mainGlobals "_law_many" = some (some (.ref f23))) (l23 : K.lookup f23 = some ⟨oc23, od23, .func (PySem.W.fnOf "_law_many" "_law_many" (defArgs s_law_many) (defBody s_law_many) (defScope s_law_many) .none kV23 dc23 pm23 an23 cd23 ct23), sl23⟩) (c23 : PySem.W.codeIn K cd23 "_law_many" = true) (k23 : PySem.W.keepIn K (.ref f23) = true)
    {f24 : Addr} {od24 an24 : Option Addr} {sl24 : Array (Option Value)} {oc24 kV24 dc24 pm24 cd24 ct24 : Value}
    (a24 : PySem.W.nsIn K mainGlobals "_law_is_whole" = some (some (.ref f24))) (l24 : K.lookup f24 = some ⟨oc24, od24, .func (PySem.W.fnOf "_law_is_whole" "_law_is_whole" (defArgs s_law_is_whole) (defBody s_law_is_whole) (defScope s_law_is_whole) .none kV24 dc24 pm24 an24 cd24 ct24), sl24⟩) (c24 : PySem.W.codeIn K cd24 "_law_is_whole" = true) (k24 : PySem.W.keepIn K (.ref f24) = true)
    {f25 : Addr} {od25 an25 : Option Addr} {sl25 : Array (Option Value)} {oc25 kV25 dc25 pm25 cd25 ct25 : Value}
    (a25 : PySem.W.nsIn K mainGlobals "_law_run" = some (some (.ref f25))) (l25 : K.lookup f25 = some ⟨oc25, od25, .func (PySem.W.fnOf "_law_run" "_law_run" (defArgs s_law_run) (defBody s_law_run) (defScope s_law_run) .none kV25 dc25 pm25 an25 cd25 ct25), sl25⟩) (c25 : PySem.W.codeIn K cd25 "_law_run" = true) (k25 : PySem.W.keepIn K (.ref f25) = true)
    {f26 : Addr} {od26 an26 : Option Addr} {sl26 : Array (Option Value)} {oc26 kV26 dc26 pm26 cd26 ct26 : Value}
    (a26 : PySem.W.nsIn K mainGlobals "_law_is_house" = some (some (.ref f26))) (l26 : K.lookup f26 = some ⟨oc26, od26, .func (PySem.W.fnOf "_law_is_house" "_law_is_house" (defArgs s_law_is_house) (defBody s_law_is_house) (defScope s_law_is_house) .none kV26 dc26 pm26 an26 cd26 ct26), sl26⟩) (c26 : PySem.W.codeIn K cd26 "_law_is_house" = true) (k26 : PySem.W.keepIn K (.ref f26) = true)
    {f27 : Addr} {od27 an27 : Option Addr} {sl27 : Array (Option Value)} {oc27 kV27 dc27 pm27 cd27 ct27 : Value}
    (a27 : PySem.W.nsIn K mainGlobals "_law_is_run" = some (some (.ref f27))) (l27 : K.lookup f27 = some ⟨oc27, od27, .func (PySem.W.fnOf "_law_is_run" "_law_is_run" (defArgs s_law_is_run) (defBody s_law_is_run) (defScope s_law_is_run) .none kV27 dc27 pm27 an27 cd27 ct27), sl27⟩) (c27 : PySem.W.codeIn K cd27 "_law_is_run" = true) (k27 : PySem.W.keepIn K (.ref f27) = true)
    {f28 : Addr} {od28 an28 : Option Addr} {sl28 : Array (Option Value)} {oc28 kV28 dc28 pm28 cd28 ct28 : Value}
    (a28 : PySem.W.nsIn K mainGlobals "_law_walks" = some (some (.ref f28))) (l28 : K.lookup f28 = some ⟨oc28, od28, .func (PySem.W.fnOf "_law_walks" "_law_walks" (defArgs s_law_walks) (defBody s_law_walks) (defScope s_law_walks) .none kV28 dc28 pm28 an28 cd28 ct28), sl28⟩) (c28 : PySem.W.codeIn K cd28 "_law_walks" = true) (k28 : PySem.W.keepIn K (.ref f28) = true)
    {f29 : Addr} {od29 an29 : Option Addr} {sl29 : Array (Option Value)} {oc29 kV29 dc29 pm29 cd29 ct29 : Value}
    (a29 : PySem.W.nsIn K mainGlobals "_law_bent_text" = some (some (.ref f29))) (l29 : K.lookup f29 = some ⟨oc29, od29, .func (PySem.W.fnOf "_law_bent_text" "_law_bent_text" (defArgs s_law_bent_text) (defBody s_law_bent_text) (defScope s_law_bent_text) .none kV29 dc29 pm29 an29 cd29 ct29), sl29⟩) (c29 : PySem.W.codeIn K cd29 "_law_bent_text" = true) (k29 : PySem.W.keepIn K (.ref f29) = true)
    {f30 : Addr} {od30 an30 : Option Addr} {sl30 : Array (Option Value)} {oc30 kV30 dc30 pm30 cd30 ct30 : Value}
    (a30 : PySem.W.nsIn K mainGlobals "_law_whole_in" = some (some (.ref f30))) (l30 : K.lookup f30 = some ⟨oc30, od30, .func (PySem.W.fnOf "_law_whole_in" "_law_whole_in" (defArgs s_law_whole_in) (defBody s_law_whole_in) (defScope s_law_whole_in) .none kV30 dc30 pm30 an30 cd30 ct30), sl30⟩) (c30 : PySem.W.codeIn K cd30 "_law_whole_in" = true) (k30 : PySem.W.keepIn K (.ref f30) = true)
    {f31 : Addr} {od31 an31 : Option Addr} {sl31 : Array (Option Value)} {oc31 kV31 dc31 pm31 cd31 ct31 : Value}
    (a31 : PySem.W.nsIn K mainGlobals "_law_pair_in" = some (some (.ref f31))) (l31 : K.lookup f31 = some ⟨oc31, od31, .func (PySem.W.fnOf "_law_pair_in" "_law_pair_in" (defArgs s_law_pair_in) (defBody s_law_pair_in) (defScope s_law_pair_in) .none kV31 dc31 pm31 an31 cd31 ct31), sl31⟩) (c31 : PySem.W.codeIn K cd31 "_law_pair_in" = true) (k31 : PySem.W.keepIn K (.ref f31) = true)
    {f32 : Addr} {od32 an32 : Option Addr} {sl32 : Array (Option Value)} {oc32 kV32 dc32 pm32 cd32 ct32 : Value}
    (a32 : PySem.W.nsIn K mainGlobals "_law_is_no_text" = some (some (.ref f32))) (l32 : K.lookup f32 = some ⟨oc32, od32, .func (PySem.W.fnOf "_law_is_no_text" "_law_is_no_text" (defArgs s_law_is_no_text) (defBody s_law_is_no_text) (defScope s_law_is_no_text) .none kV32 dc32 pm32 an32 cd32 ct32), sl32⟩) (c32 : PySem.W.codeIn K cd32 "_law_is_no_text" = true) (k32 : PySem.W.keepIn K (.ref f32) = true)
    {f33 : Addr} {od33 an33 : Option Addr} {sl33 : Array (Option Value)} {oc33 kV33 dc33 pm33 cd33 ct33 : Value}
    (a33 : PySem.W.nsIn K mainGlobals "_law_address_text" = some (some (.ref f33))) (l33 : K.lookup f33 = some ⟨oc33, od33, .func (PySem.W.fnOf "_law_address_text" "_law_address_text" (defArgs s_law_address_text) (defBody s_law_address_text) (defScope s_law_address_text) .none kV33 dc33 pm33 an33 cd33 ct33), sl33⟩) (c33 : PySem.W.codeIn K cd33 "_law_address_text" = true) (k33 : PySem.W.keepIn K (.ref f33) = true)
    {f34 : Addr} {od34 an34 : Option Addr} {sl34 : Array (Option Value)} {oc34 kV34 dc34 pm34 cd34 ct34 : Value}
    (a34 : PySem.W.nsIn K mainGlobals "_law_run_text" = some (some (.ref f34))) (l34 : K.lookup f34 = some ⟨oc34, od34, .func (PySem.W.fnOf "_law_run_text" "_law_run_text" (defArgs s_law_run_text) (defBody s_law_run_text) (defScope s_law_run_text) .none kV34 dc34 pm34 an34 cd34 ct34), sl34⟩) (c34 : PySem.W.codeIn K cd34 "_law_run_text" = true) (k34 : PySem.W.keepIn K (.ref f34) = true)
    {f35 : Addr} {od35 an35 : Option Addr} {sl35 : Array (Option Value)} {oc35 kV35 dc35 pm35 cd35 ct35 : Value}
    (a35 : PySem.W.nsIn K mainGlobals "_law_walk_text" = some (some (.ref f35))) (l35 : K.lookup f35 = some ⟨oc35, od35, .func (PySem.W.fnOf "_law_walk_text" "_law_walk_text" (defArgs s_law_walk_text) (defBody s_law_walk_text) (defScope s_law_walk_text) .none kV35 dc35 pm35 an35 cd35 ct35), sl35⟩) (c35 : PySem.W.codeIn K cd35 "_law_walk_text" = true) (k35 : PySem.W.keepIn K (.ref f35) = true)
    {f36 : Addr} {od36 an36 : Option Addr} {sl36 : Array (Option Value)} {oc36 kV36 dc36 pm36 cd36 ct36 : Value}
    (a36 : PySem.W.nsIn K mainGlobals "_law_book_text" = some (some (.ref f36))) (l36 : K.lookup f36 = some ⟨oc36, od36, .func (PySem.W.fnOf "_law_book_text" "_law_book_text" (defArgs s_law_book_text) (defBody s_law_book_text) (defScope s_law_book_text) .none kV36 dc36 pm36 an36 cd36 ct36), sl36⟩) (c36 : PySem.W.codeIn K cd36 "_law_book_text" = true) (k36 : PySem.W.keepIn K (.ref f36) = true)
    {f37 : Addr} {od37 an37 : Option Addr} {sl37 : Array (Option Value)} {oc37 kV37 dc37 pm37 cd37 ct37 : Value}
    (a37 : PySem.W.nsIn K mainGlobals "_law_run_in" = some (some (.ref f37))) (l37 : K.lookup f37 = some ⟨oc37, od37, .func (PySem.W.fnOf "_law_run_in" "_law_run_in" (defArgs s_law_run_in) (defBody s_law_run_in) (defScope s_law_run_in) .none kV37 dc37 pm37 an37 cd37 ct37), sl37⟩) (c37 : PySem.W.codeIn K cd37 "_law_run_in" = true) (k37 : PySem.W.keepIn K (.ref f37) = true)
    {f38 : Addr} {od38 an38 : Option Addr} {sl38 : Array (Option Value)} {oc38 kV38 dc38 pm38 cd38 ct38 : Value}
    (a38 : PySem.W.nsIn K mainGlobals "_law_walk_in" = some (some (.ref f38))) (l38 : K.lookup f38 = some ⟨oc38, od38, .func (PySem.W.fnOf "_law_walk_in" "_law_walk_in" (defArgs s_law_walk_in) (defBody s_law_walk_in) (defScope s_law_walk_in) .none kV38 dc38 pm38 an38 cd38 ct38), sl38⟩) (c38 : PySem.W.codeIn K cd38 "_law_walk_in" = true) (k38 : PySem.W.keepIn K (.ref f38) = true)
    {f39 : Addr} {od39 an39 : Option Addr} {sl39 : Array (Option Value)} {oc39 kV39 dc39 pm39 cd39 ct39 : Value}
    (a39 : PySem.W.nsIn K mainGlobals "_law_book_in" = some (some (.ref f39))) (l39 : K.lookup f39 = some ⟨oc39, od39, .func (PySem.W.fnOf "_law_book_in" "_law_book_in" (defArgs s_law_book_in) (defBody s_law_book_in) (defScope s_law_book_in) .none kV39 dc39 pm39 an39 cd39 ct39), sl39⟩) (c39 : PySem.W.codeIn K cd39 "_law_book_in" = true) (k39 : PySem.W.keepIn K (.ref f39) = true)
    {f40 : Addr} {od40 an40 : Option Addr} {sl40 : Array (Option Value)} {oc40 kV40 dc40 pm40 cd40 ct40 : Value}
    (a40 : PySem.W.nsIn K mainGlobals "_law_wanted" = some (some (.ref f40))) (l40 : K.lookup f40 = some ⟨oc40, od40, .func (PySem.W.fnOf "_law_wanted" "_law_wanted" (defArgs s_law_wanted) (defBody s_law_wanted) (defScope s_law_wanted) .none kV40 dc40 pm40 an40 cd40 ct40), sl40⟩) (c40 : PySem.W.codeIn K cd40 "_law_wanted" = true) (k40 : PySem.W.keepIn K (.ref f40) = true)
    {f41 : Addr} {od41 an41 : Option Addr} {sl41 : Array (Option Value)} {oc41 kV41 dc41 pm41 cd41 ct41 : Value}
    (a41 : PySem.W.nsIn K mainGlobals "_law_read" = some (some (.ref f41))) (l41 : K.lookup f41 = some ⟨oc41, od41, .func (PySem.W.fnOf "_law_read" "_law_read" (defArgs s_law_read) (defBody s_law_read) (defScope s_law_read) .none kV41 dc41 pm41 an41 cd41 ct41), sl41⟩) (c41 : PySem.W.codeIn K cd41 "_law_read" = true) (k41 : PySem.W.keepIn K (.ref f41) = true)
    {f42 : Addr} {od42 an42 : Option Addr} {sl42 : Array (Option Value)} {oc42 kV42 dc42 pm42 cd42 ct42 : Value}
    (a42 : PySem.W.nsIn K mainGlobals "law" = some (some (.ref f42))) (l42 : K.lookup f42 = some ⟨oc42, od42, .func (PySem.W.fnOf "law" "law" (defArgs slaw) (defBody slaw) (defScope slaw) .none kV42 dc42 pm42 an42 cd42 ct42), sl42⟩) (c42 : PySem.W.codeIn K cd42 "law" = true) (k42 : PySem.W.keepIn K (.ref f42) = true)
    (z_ValueError : PySem.W.nsIn K mainGlobals "ValueError" = some none)
    (z_abs : PySem.W.nsIn K mainGlobals "abs" = some none)
    (z_all : PySem.W.nsIn K mainGlobals "all" = some none)
    (z_any : PySem.W.nsIn K mainGlobals "any" = some none)
    (z_bool : PySem.W.nsIn K mainGlobals "bool" = some none)
    (z_int : PySem.W.nsIn K mainGlobals "int" = some none)
    (z_isinstance : PySem.W.nsIn K mainGlobals "isinstance" = some none)
    (z_len : PySem.W.nsIn K mainGlobals "len" = some none)
    (z_list : PySem.W.nsIn K mainGlobals "list" = some none)
    (z_max : PySem.W.nsIn K mainGlobals "max" = some none)
    (z_min : PySem.W.nsIn K mainGlobals "min" = some none)
    (z_range : PySem.W.nsIn K mainGlobals "range" = some none)
    (z_str : PySem.W.nsIn K mainGlobals "str" = some none)
    (z_tuple : PySem.W.nsIn K mainGlobals "tuple" = some none)
    {t_DIGITS : Tok} (g_DIGITS : PySem.W.nsIn K mainGlobals "DIGITS" = some (some (.str "0123456789" t_DIGITS)))
    {t_MOST_NUMBER : Tok} (g_MOST_NUMBER : PySem.W.nsIn K mainGlobals "MOST_NUMBER" = some (some (.int 596216567187872108348956733961803993280 t_MOST_NUMBER)))
    {t_NOTHING : Tok} (g_NOTHING : PySem.W.nsIn K mainGlobals "NOTHING" = some (some (.str "none" t_NOTHING)))
    {t_NO_RUNS : Tok} (g_NO_RUNS : PySem.W.nsIn K mainGlobals "NO_RUNS" = some (some (.str "-" t_NO_RUNS)))
    {p_STEPS : Addr} {t0_STEPS t1_STEPS t2_STEPS t3_STEPS : Tok} {n_STEPS : Nat} {sl_STEPS : Array (Option Value)} (g_STEPS : PySem.W.nsIn K mainGlobals "STEPS" = some (some (.ref p_STEPS))) (m_STEPS : K.lookup p_STEPS = some ⟨.type "tuple", none, .seq #[.int 1 t0_STEPS, .int 2 t1_STEPS, .int (-1) t2_STEPS, .int (-2) t3_STEPS] n_STEPS, sl_STEPS⟩)
    {t_STREETS : Tok} (g_STREETS : PySem.W.nsIn K mainGlobals "STREETS" = some (some (.int 31 t_STREETS)))
    {ALetterError : Addr} (yg_LetterError : PySem.W.nsIn K mainGlobals "LetterError" = some (some (.ref ALetterError)))
    {ANoBin : Addr} (yg_NoBin : PySem.W.nsIn K mainGlobals "NoBin" = some (some (.ref ANoBin)))
    {ANoBook : Addr} (yg_NoBook : PySem.W.nsIn K mainGlobals "NoBook" = some (some (.ref ANoBook)))
    {ANoCarrier : Addr} (yg_NoCarrier : PySem.W.nsIn K mainGlobals "NoCarrier" = some (some (.ref ANoCarrier)))
    {ANoLetter : Addr} (yg_NoLetter : PySem.W.nsIn K mainGlobals "NoLetter" = some (some (.ref ANoLetter)))
    {ANoMark : Addr} (yg_NoMark : PySem.W.nsIn K mainGlobals "NoMark" = some (some (.ref ANoMark)))
    {ANoOffice : Addr} (yg_NoOffice : PySem.W.nsIn K mainGlobals "NoOffice" = some (some (.ref ANoOffice)))
    {ANoOrder : Addr} (yg_NoOrder : PySem.W.nsIn K mainGlobals "NoOrder" = some (some (.ref ANoOrder)))
    {ANoPile : Addr} (yg_NoPile : PySem.W.nsIn K mainGlobals "NoPile" = some (some (.ref ANoPile)))
    {ANoPlan : Addr} (yg_NoPlan : PySem.W.nsIn K mainGlobals "NoPlan" = some (some (.ref ANoPlan)))
    {ANoRow : Addr} (yg_NoRow : PySem.W.nsIn K mainGlobals "NoRow" = some (some (.ref ANoRow)))
    {ANoStop : Addr} (yg_NoStop : PySem.W.nsIn K mainGlobals "NoStop" = some (some (.ref ANoStop)))
    {ANoTaking : Addr} (yg_NoTaking : PySem.W.nsIn K mainGlobals "NoTaking" = some (some (.ref ANoTaking)))
    {ANoText : Addr} (yg_NoText : PySem.W.nsIn K mainGlobals "NoText" = some (some (.ref ANoText)))
    {ANotDone : Addr} (yg_NotDone : PySem.W.nsIn K mainGlobals "NotDone" = some (some (.ref ANotDone)))
    (ye_LetterError : PySem.W.excIn K ALetterError [.type "ValueError", .type "Exception", .type "BaseException", .type "object"] "ValueError.__new__" = true)
    (yk_LetterError : PySem.W.keepIn K (.ref ALetterError) = true)
    (yb_LetterError : PySem.W.subIn K (.ref ALetterError) (.type "BaseException") = some true)
    (ye_NoText : PySem.W.excIn K ANoText [.type "ValueError", .type "Exception", .type "BaseException", .type "object"] "ValueError.__new__" = true)
    (yk_NoText : PySem.W.keepIn K (.ref ANoText) = true)
    (yb_NoText : PySem.W.subIn K (.ref ANoText) (.type "BaseException") = some true)
    (yx0_NoText : PySem.W.findIn K (.ref ANoText) "__getattribute__" = some (some (.builtin "BaseException.__getattribute__")))
    (yx1_NoText : PySem.W.findIn K (.ref ANoText) "__getattr__" = some none)
    (yx2_NoText : PySem.W.findIn K (.ref ANoText) "__class__" = some (some (.builtin "object.__class__")))
    (yx3_NoText : PySem.W.mroIn K ANoText (.type "object") = some true)
    (ys_NoText_LetterError : PySem.W.subIn K (.ref ANoText) (.ref ALetterError) = some true)
    (yi_NoText_NoBin : PySem.W.subIn K (.ref ANoText) (.ref ANoBin) = some false)
    (ywi_NoText_NoBin : ANoText ≠ ANoBin)
    (yi_NoText_NoBook : PySem.W.subIn K (.ref ANoText) (.ref ANoBook) = some false)
    (ywi_NoText_NoBook : ANoText ≠ ANoBook)
    (yi_NoText_NoCarrier : PySem.W.subIn K (.ref ANoText) (.ref ANoCarrier) = some false)
    (ywi_NoText_NoCarrier : ANoText ≠ ANoCarrier)
    (yi_NoText_NoLetter : PySem.W.subIn K (.ref ANoText) (.ref ANoLetter) = some false)
    (ywi_NoText_NoLetter : ANoText ≠ ANoLetter)
    (yi_NoText_NoMark : PySem.W.subIn K (.ref ANoText) (.ref ANoMark) = some false)
    (ywi_NoText_NoMark : ANoText ≠ ANoMark)
    (yi_NoText_NoOffice : PySem.W.subIn K (.ref ANoText) (.ref ANoOffice) = some false)
    (ywi_NoText_NoOffice : ANoText ≠ ANoOffice)
    (yi_NoText_NoOrder : PySem.W.subIn K (.ref ANoText) (.ref ANoOrder) = some false)
    (ywi_NoText_NoOrder : ANoText ≠ ANoOrder)
    (yi_NoText_NoPile : PySem.W.subIn K (.ref ANoText) (.ref ANoPile) = some false)
    (ywi_NoText_NoPile : ANoText ≠ ANoPile)
    (yi_NoText_NoPlan : PySem.W.subIn K (.ref ANoText) (.ref ANoPlan) = some false)
    (ywi_NoText_NoPlan : ANoText ≠ ANoPlan)
    (yi_NoText_NoRow : PySem.W.subIn K (.ref ANoText) (.ref ANoRow) = some false)
    (ywi_NoText_NoRow : ANoText ≠ ANoRow)
    (yi_NoText_NoStop : PySem.W.subIn K (.ref ANoText) (.ref ANoStop) = some false)
    (ywi_NoText_NoStop : ANoText ≠ ANoStop)
    (yi_NoText_NoTaking : PySem.W.subIn K (.ref ANoText) (.ref ANoTaking) = some false)
    (ywi_NoText_NoTaking : ANoText ≠ ANoTaking)
    (yi_NoText_NoText : PySem.W.subIn K (.ref ANoText) (.ref ANoText) = some true)
    (yi_NoText_NotDone : PySem.W.subIn K (.ref ANoText) (.ref ANotDone) = some false)
    (ywi_NoText_NotDone : ANoText ≠ ANotDone)
    (yv_NoText : PySem.W.subIn K (.ref ANoText) (.type "ValueError") = some true)
    (yt_LetterError : PySem.W.typeIn K (.ref ALetterError) = some (.type "type"))
    (yd_LetterError : PySem.W.hasDictIn K ALetterError = true)
    (yt_NoBin : PySem.W.typeIn K (.ref ANoBin) = some (.type "type"))
    (yd_NoBin : PySem.W.hasDictIn K ANoBin = true)
    (yt_NoBook : PySem.W.typeIn K (.ref ANoBook) = some (.type "type"))
    (yd_NoBook : PySem.W.hasDictIn K ANoBook = true)
    (yt_NoCarrier : PySem.W.typeIn K (.ref ANoCarrier) = some (.type "type"))
    (yd_NoCarrier : PySem.W.hasDictIn K ANoCarrier = true)
    (yt_NoLetter : PySem.W.typeIn K (.ref ANoLetter) = some (.type "type"))
    (yd_NoLetter : PySem.W.hasDictIn K ANoLetter = true)
    (yt_NoMark : PySem.W.typeIn K (.ref ANoMark) = some (.type "type"))
    (yd_NoMark : PySem.W.hasDictIn K ANoMark = true)
    (yt_NoOffice : PySem.W.typeIn K (.ref ANoOffice) = some (.type "type"))
    (yd_NoOffice : PySem.W.hasDictIn K ANoOffice = true)
    (yt_NoOrder : PySem.W.typeIn K (.ref ANoOrder) = some (.type "type"))
    (yd_NoOrder : PySem.W.hasDictIn K ANoOrder = true)
    (yt_NoPile : PySem.W.typeIn K (.ref ANoPile) = some (.type "type"))
    (yd_NoPile : PySem.W.hasDictIn K ANoPile = true)
    (yt_NoPlan : PySem.W.typeIn K (.ref ANoPlan) = some (.type "type"))
    (yd_NoPlan : PySem.W.hasDictIn K ANoPlan = true)
    (yt_NoRow : PySem.W.typeIn K (.ref ANoRow) = some (.type "type"))
    (yd_NoRow : PySem.W.hasDictIn K ANoRow = true)
    (yt_NoStop : PySem.W.typeIn K (.ref ANoStop) = some (.type "type"))
    (yd_NoStop : PySem.W.hasDictIn K ANoStop = true)
    (yt_NoTaking : PySem.W.typeIn K (.ref ANoTaking) = some (.type "type"))
    (yd_NoTaking : PySem.W.hasDictIn K ANoTaking = true)
    (yt_NoText : PySem.W.typeIn K (.ref ANoText) = some (.type "type"))
    (yd_NoText : PySem.W.hasDictIn K ANoText = true)
    (yt_NotDone : PySem.W.typeIn K (.ref ANotDone) = some (.type "type"))
    (yd_NotDone : PySem.W.hasDictIn K ANotDone = true)
    (yn : PySem.W.specialIn K (.builtin "object.__class__") "__get__" = some (some (.builtin "getset_descriptor.__get__")))
    (yq : PySem.W.takesIn K (.builtin "object.__class__") = some true)
    : ∃ fd : FuncData, (∀ (s : Shared) (u : Value), BindsTo s fd ⟨[u], []⟩ [("_law_script", u)]) ∧ ∀ base : Heap, K.In base → base.Ns mainGlobals mg → FnOk l.prog w K mg base (L2N.CX l.prog w) 8 fa fd ["_law_script"] (SpD K (clK K) 1 Flaw) := by
  have T : Bt K mg := ⟨PySem.W.mg_none_of X G z_ValueError, PySem.W.mg_none_of X G z_abs, PySem.W.mg_none_of X G z_all, PySem.W.mg_none_of X G z_any, PySem.W.mg_none_of X G z_bool, PySem.W.mg_none_of X G z_int, PySem.W.mg_none_of X G z_isinstance, PySem.W.mg_none_of X G z_len, PySem.W.mg_none_of X G z_list, PySem.W.mg_none_of X G z_max, PySem.W.mg_none_of X G z_min, PySem.W.mg_none_of X G z_range, PySem.W.mg_none_of X G z_str, PySem.W.mg_none_of X G z_tuple, ⟨t_DIGITS, PySem.W.mg_of X G g_DIGITS⟩, ⟨t_MOST_NUMBER, PySem.W.mg_of X G g_MOST_NUMBER⟩, ⟨t_NOTHING, PySem.W.mg_of X G g_NOTHING⟩, ⟨t_NO_RUNS, PySem.W.mg_of X G g_NO_RUNS⟩, ⟨p_STEPS, _, _, _, PySem.W.mg_of X G g_STEPS, m_STEPS, rfl, rfl, rfl, Nat.le_of_lt (sz (n := 4) (by decide)), (.cons ⟨t0_STEPS, rfl⟩ (.cons ⟨t1_STEPS, rfl⟩ (.cons ⟨t2_STEPS, rfl⟩ (.cons ⟨t3_STEPS, rfl⟩ .nil))))⟩, ⟨t_STREETS, PySem.W.mg_of X G g_STREETS⟩⟩
  have Ee : Er K mg (clK K) := ⟨clsE_mk X G yg_LetterError ye_LetterError yk_LetterError yb_LetterError yt_LetterError yd_LetterError, clsE_mk X G yg_NoText ye_NoText yk_NoText yb_NoText yt_NoText yd_NoText, by rw [clK_of yg_LetterError]; exact PySem.W.mg_of X G yg_LetterError, by rw [clK_of yg_NoBin]; exact PySem.W.mg_of X G yg_NoBin, by rw [clK_of yg_NoBook]; exact PySem.W.mg_of X G yg_NoBook, by rw [clK_of yg_NoCarrier]; exact PySem.W.mg_of X G yg_NoCarrier, by rw [clK_of yg_NoLetter]; exact PySem.W.mg_of X G yg_NoLetter, by rw [clK_of yg_NoMark]; exact PySem.W.mg_of X G yg_NoMark, by rw [clK_of yg_NoOffice]; exact PySem.W.mg_of X G yg_NoOffice, by rw [clK_of yg_NoOrder]; exact PySem.W.mg_of X G yg_NoOrder, by rw [clK_of yg_NoPile]; exact PySem.W.mg_of X G yg_NoPile, by rw [clK_of yg_NoPlan]; exact PySem.W.mg_of X G yg_NoPlan, by rw [clK_of yg_NoRow]; exact PySem.W.mg_of X G yg_NoRow, by rw [clK_of yg_NoStop]; exact PySem.W.mg_of X G yg_NoStop, by rw [clK_of yg_NoTaking]; exact PySem.W.mg_of X G yg_NoTaking, by rw [clK_of yg_NoText]; exact PySem.W.mg_of X G yg_NoText, by rw [clK_of yg_NotDone]; exact PySem.W.mg_of X G yg_NotDone, by rw [clK_of yg_NoText, clK_of yg_NoBin]; exact kit_ref yd_NoBin yt_NoBin yi_NoText_NoBin (fun _ => ywi_NoText_NoBin), by rw [clK_of yg_NoText, clK_of yg_NoBook]; exact kit_ref yd_NoBook yt_NoBook yi_NoText_NoBook (fun _ => ywi_NoText_NoBook), by rw [clK_of yg_NoText, clK_of yg_NoCarrier]; exact kit_ref yd_NoCarrier yt_NoCarrier yi_NoText_NoCarrier (fun _ => ywi_NoText_NoCarrier), by rw [clK_of yg_NoText, clK_of yg_NoLetter]; exact kit_ref yd_NoLetter yt_NoLetter yi_NoText_NoLetter (fun _ => ywi_NoText_NoLetter), by rw [clK_of yg_NoText, clK_of yg_NoMark]; exact kit_ref yd_NoMark yt_NoMark yi_NoText_NoMark (fun _ => ywi_NoText_NoMark), by rw [clK_of yg_NoText, clK_of yg_NoOffice]; exact kit_ref yd_NoOffice yt_NoOffice yi_NoText_NoOffice (fun _ => ywi_NoText_NoOffice), by rw [clK_of yg_NoText, clK_of yg_NoOrder]; exact kit_ref yd_NoOrder yt_NoOrder yi_NoText_NoOrder (fun _ => ywi_NoText_NoOrder), by rw [clK_of yg_NoText, clK_of yg_NoPile]; exact kit_ref yd_NoPile yt_NoPile yi_NoText_NoPile (fun _ => ywi_NoText_NoPile), by rw [clK_of yg_NoText, clK_of yg_NoPlan]; exact kit_ref yd_NoPlan yt_NoPlan yi_NoText_NoPlan (fun _ => ywi_NoText_NoPlan), by rw [clK_of yg_NoText, clK_of yg_NoRow]; exact kit_ref yd_NoRow yt_NoRow yi_NoText_NoRow (fun _ => ywi_NoText_NoRow), by rw [clK_of yg_NoText, clK_of yg_NoStop]; exact kit_ref yd_NoStop yt_NoStop yi_NoText_NoStop (fun _ => ywi_NoText_NoStop), by rw [clK_of yg_NoText, clK_of yg_NoTaking]; exact kit_ref yd_NoTaking yt_NoTaking yi_NoText_NoTaking (fun _ => ywi_NoText_NoTaking), by rw [clK_of yg_NoText]; exact kit_ref yd_NoText yt_NoText yi_NoText_NoText (fun z => nomatch z), by rw [clK_of yg_NoText, clK_of yg_NotDone]; exact kit_ref yd_NotDone yt_NotDone yi_NoText_NotDone (fun _ => ywi_NoText_NotDone), by rw [clK_of yg_NoText, clK_of yg_LetterError]; exact ys_NoText_LetterError, by rw [clK_of yg_NoText]; exact kit_ty (by decide +kernel) yv_NoText, by rw [clK_of yg_NoText]; exact ⟨yx0_NoText, yx1_NoText, yb_NoText, yd_NoText, yx2_NoText, yn, yq, yx3_NoText⟩⟩
  have I0 : DefIn K mg "is_whole" sis_whole ["some"] := defIn_mk X G a0 l0 c0 k0 fun _ _ _ _ _ _ => us1 (fun _ => rfl)
  have I1 : DefIn K mg "is_street" sis_street ["some"] := defIn_mk X G a1 l1 c1 k1 fun _ _ _ _ _ _ => us1 (fun _ => rfl)
  have I2 : DefIn K mg "is_house" sis_house ["some"] := defIn_mk X G a2 l2 c2 k2 fun _ _ _ _ _ _ => us1 (fun _ => rfl)
  have I3 : DefIn K mg "is_address" sis_address ["some"] := defIn_mk X G a3 l3 c3 k3 fun _ _ _ _ _ _ => us1 (fun _ => rfl)
  have I4 : DefIn K mg "is_reached" sis_reached ["first", "last", "step"] := defIn_mk X G a4 l4 c4 k4 fun _ _ _ _ _ _ => us3 (fun _ _ _ => rfl)
  have I5 : DefIn K mg "is_run" sis_run ["some"] := defIn_mk X G a5 l5 c5 k5 fun _ _ _ _ _ _ => us1 (fun _ => rfl)
  have I6 : DefIn K mg "show_address" sshow_address ["one"] := defIn_mk X G a6 l6 c6 k6 fun _ _ _ _ _ _ => us1 (fun _ => rfl)
  have I7 : DefIn K mg "show_run" sshow_run ["one"] := defIn_mk X G a7 l7 c7 k7 fun _ _ _ _ _ _ => us1 (fun _ => rfl)
  have I8 : DefIn K mg "show_walk" sshow_walk ["one"] := defIn_mk X G a8 l8 c8 k8 fun _ _ _ _ _ _ => us1 (fun _ => rfl)
  have I9 : DefIn K mg "show_book" sshow_book ["one"] := defIn_mk X G a9 l9 c9 k9 fun _ _ _ _ _ _ => us1 (fun _ => rfl)
  have I10 : DefIn K mg "must" smust ["right"] := defIn_mk X G a10 l10 c10 k10 fun _ _ _ _ _ _ => us1 (fun _ => rfl)
  have I11 : DefIn K mg "must_be_text" smust_be_text ["some"] := defIn_mk X G a11 l11 c11 k11 fun _ _ _ _ _ _ => us1 (fun _ => rfl)
  have I12 : DefIn K mg "whole_in" swhole_in ["text"] := defIn_mk X G a12 l12 c12 k12 fun _ _ _ _ _ _ => us1 (fun _ => rfl)
  have I13 : DefIn K mg "pair_in" spair_in ["text", "sign"] := defIn_mk X G a13 l13 c13 k13 fun _ _ _ _ _ _ => us2 (fun _ _ => rfl)
  have I14 : DefIn K mg "address_in" saddress_in ["text"] := defIn_mk X G a14 l14 c14 k14 fun _ _ _ _ _ _ => us1 (fun _ => rfl)
  have I15 : DefIn K mg "run_in" srun_in ["text"] := defIn_mk X G a15 l15 c15 k15 fun _ _ _ _ _ _ => us1 (fun _ => rfl)
  have I16 : DefIn K mg "walk_in" swalk_in ["text"] := defIn_mk X G a16 l16 c16 k16 fun _ _ _ _ _ _ => us1 (fun _ => rfl)
  have I17 : DefIn K mg "read_address" sread_address ["text"] := defIn_mk X G a17 l17 c17 k17 fun _ _ _ _ _ _ => us1 (fun _ => rfl)
  have I18 : DefIn K mg "read_run" sread_run ["text"] := defIn_mk X G a18 l18 c18 k18 fun _ _ _ _ _ _ => us1 (fun _ => rfl)
  have I19 : DefIn K mg "read_walk" sread_walk ["text"] := defIn_mk X G a19 l19 c19 k19 fun _ _ _ _ _ _ => us1 (fun _ => rfl)
  have I20 : DefIn K mg "read_book" sread_book ["text"] := defIn_mk X G a20 l20 c20 k20 fun _ _ _ _ _ _ => us1 (fun _ => rfl)
  have I21 : DefIn K mg "_law_purse" s_law_purse ["_law_script", "_law_at"] := defIn_mk X G a21 l21 c21 k21 fun _ _ _ _ _ _ => us2 (fun _ _ => rfl)
  have I22 : DefIn K mg "_law_draw" s_law_draw ["_law_purse_here", "_law_many_here"] := defIn_mk X G a22 l22 c22 k22 fun _ _ _ _ _ _ => us2 (fun _ _ => rfl)
  have I23 : DefIn K mg "_law_many" s_law_many ["_law_script", "_law_most"] := defIn_mk X G a23 l23 c23 k23 fun _ _ _ _ _ _ => us2 (fun _ _ => rfl)
  have I24 : DefIn K mg "_law_is_whole" s_law_is_whole ["_law_found"] := defIn_mk X G a24 l24 c24 k24 fun _ _ _ _ _ _ => us1 (fun _ => rfl)
  have I25 : DefIn K mg "_law_run" s_law_run ["_law_purse_here", "_law_streets", "_law_is_far"] := defIn_mk X G a25 l25 c25 k25 fun _ _ _ _ _ _ => us3 (fun _ _ _ => rfl)
  have I26 : DefIn K mg "_law_is_house" s_law_is_house ["_law_some"] := defIn_mk X G a26 l26 c26 k26 fun _ _ _ _ _ _ => us1 (fun _ => rfl)
  have I27 : DefIn K mg "_law_is_run" s_law_is_run ["_law_some"] := defIn_mk X G a27 l27 c27 k27 fun _ _ _ _ _ _ => us1 (fun _ => rfl)
  have I28 : DefIn K mg "_law_walks" s_law_walks ["_law_purse_here", "_law_is_far"] := defIn_mk X G a28 l28 c28 k28 fun _ _ _ _ _ _ => us2 (fun _ _ => rfl)
  have I29 : DefIn K mg "_law_bent_text" s_law_bent_text ["_law_purse_here", "_law_text"] := defIn_mk X G a29 l29 c29 k29 fun _ _ _ _ _ _ => us2 (fun _ _ => rfl)
  have I30 : DefIn K mg "_law_whole_in" s_law_whole_in ["_law_text"] := defIn_mk X G a30 l30 c30 k30 fun _ _ _ _ _ _ => us1 (fun _ => rfl)
  have I31 : DefIn K mg "_law_pair_in" s_law_pair_in ["_law_text", "_law_sign"] := defIn_mk X G a31 l31 c31 k31 fun _ _ _ _ _ _ => us2 (fun _ _ => rfl)
  have I32 : DefIn K mg "_law_is_no_text" s_law_is_no_text ["_law_e"] := defIn_mk X G a32 l32 c32 k32 fun _ _ _ _ _ _ => us1 (fun _ => rfl)
  have I33 : DefIn K mg "_law_address_text" s_law_address_text ["_law_one"] := defIn_mk X G a33 l33 c33 k33 fun _ _ _ _ _ _ => us1 (fun _ => rfl)
  have I34 : DefIn K mg "_law_run_text" s_law_run_text ["_law_one"] := defIn_mk X G a34 l34 c34 k34 fun _ _ _ _ _ _ => us1 (fun _ => rfl)
  have I35 : DefIn K mg "_law_walk_text" s_law_walk_text ["_law_one"] := defIn_mk X G a35 l35 c35 k35 fun _ _ _ _ _ _ => us1 (fun _ => rfl)
  have I36 : DefIn K mg "_law_book_text" s_law_book_text ["_law_one"] := defIn_mk X G a36 l36 c36 k36 fun _ _ _ _ _ _ => us1 (fun _ => rfl)
  have I37 : DefIn K mg "_law_run_in" s_law_run_in ["_law_text"] := defIn_mk X G a37 l37 c37 k37 fun _ _ _ _ _ _ => us1 (fun _ => rfl)
  have I38 : DefIn K mg "_law_walk_in" s_law_walk_in ["_law_text"] := defIn_mk X G a38 l38 c38 k38 fun _ _ _ _ _ _ => us1 (fun _ => rfl)
  have I39 : DefIn K mg "_law_book_in" s_law_book_in ["_law_text"] := defIn_mk X G a39 l39 c39 k39 fun _ _ _ _ _ _ => us1 (fun _ => rfl)
  have I40 : DefIn K mg "_law_wanted" s_law_wanted ["_law_kind", "_law_text"] := defIn_mk X G a40 l40 c40 k40 fun _ _ _ _ _ _ => us2 (fun _ _ => rfl)
  have I41 : DefIn K mg "_law_read" s_law_read ["_law_kind", "_law_text"] := defIn_mk X G a41 l41 c41 k41 fun _ _ _ _ _ _ => us2 (fun _ _ => rfl)
  have I42 : DefIn K mg "law" slaw ["_law_script"] := defIn_mk X G a42 l42 c42 k42 fun _ _ _ _ _ _ => us1 (fun _ => rfl)
  obtain ⟨fd, hb, hF⟩ := law_fn (P := l.prog) (w := w) (cl := (clK K)) (k := 8) (F := Flaw) I42 hfa
  refine ⟨fd, fun s u => .of_eq (hb [u] rfl), fun base _ _ => hF base ?_⟩
  have Gis_whole : DefOk l.prog w K mg base (clK K) "is_whole" 1 ["some"] Fis_whole := kis_whole T Ee I0 
  have Gis_street : DefOk l.prog w K mg base (clK K) "is_street" 2 ["some"] Fis_street := kis_street T Ee I1 Gis_whole
  have Gis_house : DefOk l.prog w K mg base (clK K) "is_house" 2 ["some"] Fis_house := kis_house T Ee I2 Gis_whole
  have Gis_address : DefOk l.prog w K mg base (clK K) "is_address" 3 ["some"] Fis_address := kis_address T Ee I3 Gis_street Gis_house
  have Gis_reached : DefOk l.prog w K mg base (clK K) "is_reached" 1 ["first", "last", "step"] Fis_reached := kis_reached T Ee I4 
  have Gis_run : DefOk l.prog w K mg base (clK K) "is_run" 3 ["some"] Fis_run := kis_run T Ee I5 Gis_reached Gis_street Gis_house Gis_whole
  have Gshow_address : DefOk l.prog w K mg base (clK K) "show_address" 1 ["one"] Fshow_address := kshow_address T Ee I6 
  have Gshow_run : DefOk l.prog w K mg base (clK K) "show_run" 2 ["one"] Fshow_run := kshow_run T Ee I7 Gshow_address
  have Gshow_walk : DefOk l.prog w K mg base (clK K) "show_walk" 3 ["one"] Fshow_walk := kshow_walk T Ee I8 Gshow_run
  have Gshow_book : DefOk l.prog w K mg base (clK K) "show_book" 4 ["one"] Fshow_book := kshow_book T Ee I9 Gshow_walk
  have Gmust : DefOk l.prog w K mg base (clK K) "must" 1 ["right"] Fmust := kmust T Ee I10 
  have Gmust_be_text : DefOk l.prog w K mg base (clK K) "must_be_text" 2 ["some"] Fmust_be_text := kmust_be_text T Ee I11 Gmust
  have Gwhole_in : DefOk l.prog w K mg base (clK K) "whole_in" 2 ["text"] Fwhole_in := kwhole_in T Ee I12 Gmust
  have Gpair_in : DefOk l.prog w K mg base (clK K) "pair_in" 3 ["text", "sign"] Fpair_in := kpair_in T Ee I13 Gmust Gwhole_in
  have Gaddress_in : DefOk l.prog w K mg base (clK K) "address_in" 4 ["text"] Faddress_in := kaddress_in T Ee I14 Gpair_in Gmust Gis_address
  have Grun_in : DefOk l.prog w K mg base (clK K) "run_in" 4 ["text"] Frun_in := krun_in T Ee I15 Gmust Gpair_in Gis_run Gwhole_in
  have Gwalk_in : DefOk l.prog w K mg base (clK K) "walk_in" 5 ["text"] Fwalk_in := kwalk_in T Ee I16 Grun_in
  have Gread_address : DefOk l.prog w K mg base (clK K) "read_address" 5 ["text"] Fread_address := kread_address T Ee I17 Gmust_be_text Gaddress_in
  have Gread_run : DefOk l.prog w K mg base (clK K) "read_run" 5 ["text"] Fread_run := kread_run T Ee I18 Gmust_be_text Grun_in
  have Gread_walk : DefOk l.prog w K mg base (clK K) "read_walk" 6 ["text"] Fread_walk := kread_walk T Ee I19 Gmust_be_text Gwalk_in
  have Gread_book : DefOk l.prog w K mg base (clK K) "read_book" 6 ["text"] Fread_book := kread_book T Ee I20 Gmust_be_text Gwalk_in
  have G_law_purse : DefOk l.prog w K mg base (clK K) "_law_purse" 1 ["_law_script", "_law_at"] F_law_purse := k_law_purse T Ee I21 
  have G_law_draw : DefOk l.prog w K mg base (clK K) "_law_draw" 1 ["_law_purse_here", "_law_many_here"] F_law_draw := k_law_draw T Ee I22 
  have G_law_many : DefOk l.prog w K mg base (clK K) "_law_many" 1 ["_law_script", "_law_most"] F_law_many := k_law_many T Ee I23 
  have G_law_is_whole : DefOk l.prog w K mg base (clK K) "_law_is_whole" 1 ["_law_found"] F_law_is_whole := k_law_is_whole T Ee I24 
  have G_law_run : DefOk l.prog w K mg base (clK K) "_law_run" 2 ["_law_purse_here", "_law_streets", "_law_is_far"] F_law_run := k_law_run T Ee I25 G_law_draw
  have G_law_is_house : DefOk l.prog w K mg base (clK K) "_law_is_house" 2 ["_law_some"] F_law_is_house := k_law_is_house T Ee I26 G_law_is_whole
  have G_law_is_run : DefOk l.prog w K mg base (clK K) "_law_is_run" 3 ["_law_some"] F_law_is_run := k_law_is_run T Ee I27 G_law_is_house G_law_is_whole
  have G_law_walks : DefOk l.prog w K mg base (clK K) "_law_walks" 3 ["_law_purse_here", "_law_is_far"] F_law_walks := k_law_walks T Ee I28 G_law_draw G_law_run
  have G_law_bent_text : DefOk l.prog w K mg base (clK K) "_law_bent_text" 2 ["_law_purse_here", "_law_text"] F_law_bent_text := k_law_bent_text T Ee I29 G_law_draw
  have G_law_whole_in : DefOk l.prog w K mg base (clK K) "_law_whole_in" 1 ["_law_text"] F_law_whole_in := k_law_whole_in T Ee I30 
  have G_law_pair_in : DefOk l.prog w K mg base (clK K) "_law_pair_in" 2 ["_law_text", "_law_sign"] F_law_pair_in := k_law_pair_in T Ee I31 G_law_whole_in
  have H_law_is_no_text_NoText : DefE l.prog w K mg base (clK K) "_law_is_no_text" 1 ["_law_e"] "NoText" true := e_law_is_no_text_NoText T Ee I32
  have G_law_address_text : DefOk l.prog w K mg base (clK K) "_law_address_text" 1 ["_law_one"] F_law_address_text := k_law_address_text T Ee I33 
  have G_law_run_text : DefOk l.prog w K mg base (clK K) "_law_run_text" 2 ["_law_one"] F_law_run_text := k_law_run_text T Ee I34 G_law_address_text
  have G_law_walk_text : DefOk l.prog w K mg base (clK K) "_law_walk_text" 3 ["_law_one"] F_law_walk_text := k_law_walk_text T Ee I35 G_law_run_text
  have G_law_book_text : DefOk l.prog w K mg base (clK K) "_law_book_text" 4 ["_law_one"] F_law_book_text := k_law_book_text T Ee I36 G_law_walk_text
  have G_law_run_in : DefOk l.prog w K mg base (clK K) "_law_run_in" 4 ["_law_text"] F_law_run_in := k_law_run_in T Ee I37 G_law_pair_in G_law_is_run G_law_whole_in
  have G_law_walk_in : DefOk l.prog w K mg base (clK K) "_law_walk_in" 5 ["_law_text"] F_law_walk_in := k_law_walk_in T Ee I38 G_law_run_in
  have G_law_book_in : DefOk l.prog w K mg base (clK K) "_law_book_in" 6 ["_law_text"] F_law_book_in := k_law_book_in T Ee I39 G_law_walk_in
  have G_law_wanted : DefOk l.prog w K mg base (clK K) "_law_wanted" 7 ["_law_kind", "_law_text"] F_law_wanted := k_law_wanted T Ee I40 G_law_pair_in G_law_run_in G_law_walk_in G_law_book_in
  have G_law_read : DefOk l.prog w K mg base (clK K) "_law_read" 7 ["_law_kind", "_law_text"] F_law_read := k_law_read T Ee I41 Gread_book Gread_address Gread_run Gread_walk H_law_is_no_text_NoText
  exact klaw T Ee I42 G_law_many G_law_purse G_law_run G_law_walks G_law_draw G_law_address_text G_law_run_text G_law_walk_text G_law_book_text G_law_bent_text Gshow_address Gshow_run Gshow_walk Gshow_book G_law_read G_law_wanted
end Lw
set_option Elab.async false
set_option linter.all false
set_option maxRecDepth 100000
namespace Lw
open PySem PySem.Spec PyProof.Rows L2 Pu
noncomputable def tx (l : List Nat) : Str := ⟨l.toArray⟩
theorem tx_inj {a b : List Nat} (h : tx a = tx b) : a = b := by
  have : (tx a).cps.toList = (tx b).cps.toList := by rw [h]
  simpa [tx] using this
theorem tx_len (a : List Nat) : (tx a).length = a.length := by simp [tx, Str.length]
theorem tx_app (a b : List Nat) : tx a ++ tx b = tx (a ++ b) := by
  show (⟨a.toArray ++ b.toArray⟩ : Str) = ⟨(a ++ b).toArray⟩
  rw [List.append_toArray]
theorem tx_signs (a : List Nat) : Pu.signs (tx a) = a.map fun c => D.str (tx [c]) := rfl
theorem tx_list (a : List Nat) : (tx a).cps.toList = a := by simp [tx]
theorem tx_cut (a : List Nat) (lo hi : Option Int) : cutS (tx a) lo hi = tx (cutL a lo hi) := by
  unfold cutS cutL
  rw [tx_len, tx_list]
  rfl
/-- signs of bytes -/
noncomputable def Asc (a : List Nat) : Prop := ∀ c ∈ a, c < 55296
theorem Asc.app {a b : List Nat} (ha : Asc a) (hb : Asc b) : Asc (a ++ b) := fun c hc => by
  rcases List.mem_append.mp hc with h | h
  · exact ha c h
  · exact hb c h
theorem tx_lay {a : List Nat} (h : Asc a) : (PyData.str (tx a)).canLay0 = true := by
  show PyData.strOk (tx a) = true
  unfold PyData.strOk tx
  rw [List.all_toArray, List.all_eq_true]
  intro c hc
  have := h c hc
  exact decide_eq_true (by omega)
theorem tx_cmp {a b : List Nat} (ha : Asc a) (hb : Asc b) (neg : Bool) (S : Sto) : eqD neg (.str (tx a)) (.str (tx b)) S = .ok (.bl (if neg = true then !decide (a = b) else decide (a = b))) S := by
  have hs : ∀ x : Str, (PyData.str x).canLay0 = true → Pu.shp S (.str x) = true := fun x h => by
    show ((PyData.str x).canLay0 && decide ((PyData.str x).depth ≤ 64)) = true
    rw [h]
    rfl
  have h2 : Pu.eqB S (.str (tx a)) (.str (tx b)) = decide (a = b) := by
    show PyData.eqv (PyData.str (tx a)) (PyData.str (tx b)) = _
    by_cases e : a = b
    · simp [PyData.eqv, e]
    · have : ¬ tx a = tx b := fun h => e (tx_inj h)
      simp [PyData.eqv, e, this]
  unfold eqD
  rw [if_pos ⟨hs _ (tx_lay ha), hs _ (tx_lay hb)⟩, h2]
theorem tx_eqF {a b : List Nat} (ha : Asc a) (hb : Asc b) (S : Sto) : eqD false (.str (tx a)) (.str (tx b)) S = .ok (.bl (decide (a = b))) S := tx_cmp ha hb false S
theorem tx_eqT {a b : List Nat} (ha : Asc a) (hb : Asc b) (S : Sto) : eqD true (.str (tx a)) (.str (tx b)) S = .ok (.bl (!decide (a = b))) S := tx_cmp ha hb true S
theorem tx_add {a b : List Nat} (S : Sto) (h : a.length + b.length < 1048576) : addD (.str (tx a)) (.str (tx b)) S = .ok (.str (tx (a ++ b))) S := by
  rw [addD_str, tx_len, tx_len, if_pos (Nat.le_of_lt (sz h)), tx_app]
theorem tx_lenD {a : List Nat} (S : Sto) (h : a.length < 1048576) : lenD [.str (tx a)] S = .ok (.int (a.length : Nat)) S := by
  show (if (tx a).length ≤ sizeLine then Res.ok (D.int ((tx a).length : Nat)) S else .bad) = _
  rw [tx_len, if_pos (Nat.le_of_lt (sz h))]
theorem tx_sl {a : List Nat} (S : Sto) (h : a.length < 1048576) (lo hi : Option Int) : slD (.str (tx a)) lo hi S = .ok (.str (tx (cutL a lo hi))) S := by
  show (if (tx a).length ≤ sizeLine then Res.ok (D.str (cutS (tx a) lo hi)) S else .bad) = _
  rw [tx_len, if_pos (Nat.le_of_lt (sz h)), tx_cut]
theorem tx_ix {a : List Nat} (S : Sto) (h : a.length < 1048576) {j : Int} {c : Nat} (hc : atI a j = some c) : ixD (.str (tx a)) (.int j) S = .ok (.str (tx [c])) S := by
  unfold ixD
  simp only [dcOf, tx_len]
  rw [if_pos (Nat.le_of_lt (sz h)), tx_list, hc]
  rfl
noncomputable def dec (n : Nat) : List Nat := (Nat.toDigits 10 n).map Char.toNat
noncomputable def decI : Int → List Nat
  | .ofNat n => dec n
  | .negSucc n => 45 :: dec (n + 1)
theorem ofList_tx (cs : List Char) : Str.ofString (String.ofList cs) = tx (cs.map Char.toNat) := by
  rw [show Str.ofString = Str.ofStringByList from PySem.Str.ofString_eq_byList]
  unfold Str.ofStringByList tx
  rw [String.toList_ofList]
theorem decI_str (i : Int) : Str.ofString (toString i) = tx (decI i) := by
  cases i with
  | ofNat n => exact ofList_tx _
  | negSucc n =>
    have e : toString (Int.negSucc n) = String.ofList ('-' :: Nat.toDigits 10 (n + 1)) := by
      show "-" ++ Nat.repr (n + 1) = _
      rw [Nat.repr_eq_ofList_toDigits, String.ofList_cons]
      rfl
    rw [e, ofList_tx]
    rfl
theorem dec_ne (n : Nat) : dec n ≠ [] := by
  unfold dec
  intro h
  exact Nat.toDigits_ne_nil (List.map_eq_nil_iff.mp h)
theorem dec_digit {n c : Nat} (h : c ∈ dec n) : 48 ≤ c ∧ c ≤ 57 := by
  obtain ⟨ch, hc, rfl⟩ := List.mem_map.mp h
  have := Char.isDigit_iff_toNat.mp (Nat.isDigit_of_mem_toDigits (by decide) (by decide) hc)
  exact this
theorem dec_val (n : Nat) : (dec n).foldl (fun acc c => acc * 10 + (c - 48)) 0 = n := by
  have h := Nat.ofDigitChars_toDigits (b := 10) (n := n) (by decide) (by decide)
  rw [Nat.ofDigitChars_eq_foldl] at h
  unfold dec
  rw [List.foldl_map]
  rw [show (fun (sofar : Nat) (c : Char) => 10 * sofar + (c.toNat - '0'.toNat)) = fun (x : Nat) (y : Char) => x * 10 + (y.toNat - 48) from funext fun a => funext fun c => by
    show 10 * a + (c.toNat - 48) = _
    omega] at h
  exact h
theorem dec_len {n k : Nat} (hk : 0 < k) (h : n < 10 ^ k) : (dec n).length ≤ k := by
  unfold dec
  rw [List.length_map]
  exact (Nat.length_toDigits_le_iff (by decide) hk).mpr h
/-- the first sign is no nought but for nought itself -/
theorem dec_head (n : Nat) : (dec n).head? = some 48 ↔ n = 0 := by
  have aux : ∀ n : Nat, 0 < n → (dec n).head? ≠ some 48 := by
    intro n
    induction n using Nat.strongRecOn with
    | _ n ih =>
      intro hn
      by_cases h : n < 10
      · have cs : n = 1 ∨ n = 2 ∨ n = 3 ∨ n = 4 ∨ n = 5 ∨ n = 6 ∨ n = 7 ∨ n = 8 ∨ n = 9 := by omega
        rcases cs with rfl | rfl | rfl | rfl | rfl | rfl | rfl | rfl | rfl <;> decide +kernel
      · have e : dec n = dec (n / 10) ++ [((n % 10).digitChar).toNat] := by
          unfold dec
          rw [Nat.toDigits_of_base_le (by decide) (by omega), List.map_append]
          rfl
        have := ih (n / 10) (by omega) (by omega)
        rw [e, List.head?_append]
        cases q : (dec (n / 10)).head? with
        | none => exact absurd (List.head?_eq_none_iff.mp q) (dec_ne _)
        | some c =>
          rw [q] at this
          exact this
  constructor
  · intro h
    apply Classical.byContradiction
    intro z
    exact aux n (by omega) h
  · rintro rfl
    decide +kernel
/-- int(text) of such signs -/
theorem steps_dec : ∀ (cs : List Nat) (ds : Array Nat) (b : Bool), (∀ c ∈ cs, 48 ≤ c ∧ c ≤ 57) → cs.foldlM (PySem.NumText.step 10) (ds, b) = some (ds ++ (cs.map (· - 48)).toArray, b || decide (cs ≠ [])) := by
  intro cs
  induction cs with
  | nil => intro ds b _; simp
  | cons c cs ih =>
    intro ds b h
    have hc := h c List.mem_cons_self
    have st : PySem.NumText.step 10 (ds, b) c = some (ds.push (c - 48), true) := by
      unfold PySem.NumText.step PySem.NumText.digit?
      rw [if_neg (by simp; omega), if_pos (by simp; omega)]
      simp only
      rw [if_pos (by omega)]
    rw [List.foldlM_cons, st]
    show cs.foldlM (PySem.NumText.step 10) (ds.push (c - 48), true) = _
    rw [ih _ _ fun c hc => h c (List.mem_cons_of_mem _ hc)]
    simp
theorem blank_no {c : Nat} (h : 45 ≤ c) : PySem.NumText.blank c = false := by
  unfold PySem.NumText.blank
  simp
  omega
theorem tw_all {α : Type} {p : α → Bool} (l : List α) (h : ∀ c ∈ l, p c = true) : l.takeWhile p = l := by
  induction l with
  | nil => rfl
  | cons c l ih => rw [List.takeWhile_cons, if_pos (h c List.mem_cons_self), ih fun x hx => h x (List.mem_cons_of_mem _ hx)]
theorem seen_tx {l : List Nat} (h : ∀ c ∈ l, 45 ≤ c ∧ c < 128) : numSeenOf (tx l) = l ∧ numTextOf (tx l) = l := by
  have e : numTextOf (tx l) = l := by
    unfold numTextOf
    rw [if_pos ?_, tx_list]
    show (l.toArray).all (· < 128) = true
    rw [List.all_toArray]
    exact List.all_eq_true.mpr fun c hc => decide_eq_true (h c hc).2
  refine ⟨?_, e⟩
  unfold numSeenOf
  rw [e]
  refine tw_all l fun c hc => ?_
  have := (h c hc).1
  simp
  omega
theorem int_dec (n : Nat) (h : (dec n).length ≤ 640) (neg : Bool) (l : List Nat) (hl : l = if neg = true then 45 :: dec n else dec n) : PySem.intText? (tx l) = some (if neg = true then -(n : Int) else n) := by
  have hd : ∀ c ∈ dec n, 48 ≤ c ∧ c ≤ 57 := fun c hc => dec_digit hc
  have hall : ∀ c ∈ l, 45 ≤ c ∧ c < 128 := fun c hc => by
    rw [hl] at hc
    cases neg with
    | true =>
      rcases List.mem_cons.mp hc with rfl | hc
      · decide
      · have := hd c hc
        omega
    | false =>
      have := hd c hc
      omega
  obtain ⟨s1, s2⟩ := seen_tx hall
  obtain ⟨x, xs, ex⟩ : ∃ x xs, dec n = x :: xs := by
    cases q : dec n with
    | nil => exact absurd q (dec_ne n)
    | cons x xs => exact ⟨x, xs, rfl⟩
  have hx := hd x (by rw [ex]; exact List.mem_cons_self)
  have dw : l.dropWhile PySem.NumText.blank = l := by
    rw [hl]
    cases neg with
    | true =>
      show List.dropWhile _ (45 :: dec n) = _
      rw [List.dropWhile_cons_of_neg (by decide)]
      rfl
    | false =>
      show List.dropWhile _ (dec n) = _
      rw [ex, List.dropWhile_cons_of_neg (by rw [blank_no (by omega)]; decide)]
      rfl
  have sg : PySem.NumText.sign l = (neg, dec n) := by
    rw [hl]
    cases neg with
    | true => rfl
    | false =>
      show PySem.NumText.sign (dec n) = _
      rw [ex]
      unfold PySem.NumText.sign
      split
      · rename_i r e; have := (List.cons.inj e).1; omega
      · rename_i r e; have := (List.cons.inj e).1; omega
      · rfl
  have rv : ((dec n).reverse.dropWhile PySem.NumText.blank).reverse = dec n := by
    cases q : (dec n).reverse with
    | nil => exact absurd (List.reverse_eq_nil_iff.mp q) (dec_ne n)
    | cons y ys =>
      have hy := hd y (by rw [← List.mem_reverse, q]; exact List.mem_cons_self)
      rw [List.dropWhile_cons_of_neg (by rw [blank_no (by omega)]; decide), ← q, List.reverse_reverse]
  have ds : PySem.NumText.digits? 10 (dec n) = some ((dec n).map (· - 48)).toArray := by
    unfold PySem.NumText.digits?
    rw [steps_dec _ _ _ hd]
    have : decide (dec n ≠ []) = true := decide_eq_true (dec_ne n)
    simp [this]
  have co : PySem.NumText.core l = dec n := by
    unfold PySem.NumText.core
    rw [dw, sg]
    exact rv
  unfold PySem.intText?
  rw [s1, s2, if_pos (by simp), co, ds]
  simp only
  rw [if_pos (by simp; omega), dw, sg]
  unfold PySem.NumText.worth
  have hv := dec_val n
  have hf : (((dec n).map (· - 48)).toArray.foldl (fun acc d => acc * 10 + d) 0 : Nat) = n := by
    rw [List.foldl_toArray, List.foldl_map]
    exact hv
  simp only [hf]
theorem int_decI (i : Int) (h : (decI i).length ≤ 640) : PySem.intText? (tx (decI i)) = some i := by
  cases i with
  | ofNat n => exact int_dec n h false _ rfl
  | negSucc n =>
    have := int_dec (n + 1) (by have : (45 :: dec (n + 1)).length ≤ 640 := h; simp at this; omega) true _ rfl
    rw [if_pos rfl] at this
    exact this
noncomputable def joinL (sep : List Nat) : List (List Nat) → List Nat
  | [] => []
  | [w] => w
  | w :: v :: ws => w ++ sep ++ joinL sep (v :: ws)
noncomputable def cutsP (k : Nat) : Nat → List (List Nat) → List Nat
  | _, [] => []
  | _, [_] => []
  | off, w :: v :: ws => (off + w.length) :: cutsP k (off + w.length + k) (v :: ws)
open PySem.StrLaws PySem.Builtin.Str in
theorem occ_skip (s sub : Str) (hi limit : Nat) : ∀ (l : List Nat) (fd : Array Nat) (free : Nat), (∀ i ∈ l, i < free ∨ ¬ (i + sub.length ≤ hi ∧ subAt s sub i = true)) → (forIn l (fd, free) (occBody s sub hi limit)) = (pure (fd, free) : Id _) := by
  intro l
  induction l with
  | nil => intro fd free _; rfl
  | cons a l ih =>
    intro fd free h
    have ha := h a List.mem_cons_self
    rw [List.forIn_cons]
    unfold occBody
    rw [if_neg fun z => by
      rcases ha with q | q
      · have : free ≤ a := z.1.1.2
        omega
      · exact q ⟨z.1.2, z.2⟩]
    exact ih fd free fun i hi => h i (List.mem_cons_of_mem _ hi)
open PySem.StrLaws PySem.Builtin.Str in
theorem occ_app (s sub : Str) (hi limit : Nat) : ∀ (l1 l2 : List Nat) (st : Array Nat × Nat), (forIn (l1 ++ l2) st (occBody s sub hi limit) : Id _) = forIn l2 ((forIn l1 st (occBody s sub hi limit) : Id (Array Nat × Nat)).run) (occBody s sub hi limit) := by
  intro l1
  induction l1 with
  | nil => intro l2 st; rfl
  | cons a l1 ih =>
    intro l2 st
    rw [List.cons_append, List.forIn_cons, List.forIn_cons]
    unfold occBody
    split
    · exact ih l2 _
    · exact ih l2 _
open PySem.StrLaws PySem.Builtin.Str in
theorem sub_iff (L sep : List Nat) (i : Nat) : subAt (tx L) (tx sep) i = true ↔ (L.drop i).take sep.length = sep := by
  rw [subAt_eq, beq_iff_eq, tx_list, tx_list]
  rw [tx_len]
theorem join_len (sep : List Nat) (w v : List Nat) (ws : List (List Nat)) : (joinL sep (w :: v :: ws)).length = w.length + sep.length + (joinL sep (v :: ws)).length := by
  show (w ++ sep ++ joinL sep (v :: ws)).length = _
  rw [List.length_append, List.length_append]
open PySem.StrLaws PySem.Builtin.Str in
theorem occ_join (c : Nat) (sr : List Nat) : ∀ (ws : List (List Nat)) (w : List Nat) (pre : List Nat) (fd : Array Nat) (free limit : Nat), (∀ x ∈ w :: ws, c ∉ x) → free ≤ pre.length → fd.size ≤ pre.length → (pre ++ joinL (c :: sr) (w :: ws)).length < limit →
    ∃ fr, (forIn (List.range' pre.length ((joinL (c :: sr) (w :: ws)).length + 1)) (fd, free) (occBody (tx (pre ++ joinL (c :: sr) (w :: ws))) (tx (c :: sr)) (pre ++ joinL (c :: sr) (w :: ws)).length limit)) = (pure (fd ++ (cutsP (sr.length + 1) pre.length (w :: ws)).toArray, fr) : Id _) := by
  intro ws
  induction ws with
  | nil =>
    intro w pre fd free limit hc hf hs hl
    refine ⟨free, ?_⟩
    rw [occ_skip]
    · show (pure (fd, free) : Id _) = pure (fd ++ #[], free)
      rw [Array.append_empty]
    · intro i hi
      right
      rintro ⟨h1, h2⟩
      rw [sub_iff] at h2
      rw [tx_len, List.length_append, List.length_cons] at h1
      have hi := List.mem_range'.mp hi
      obtain ⟨k, hk, rfl⟩ := hi
      have e1 : joinL (c :: sr) [w] = w := rfl
      rw [e1] at h1 h2 hk
      have h3 : (pre ++ w)[pre.length + 1 * k]? = some c := by
        have := congrArg (·[0]?) h2
        simp only [List.getElem?_take, List.getElem?_drop] at this
        simpa using this
      rw [List.getElem?_append_right (by omega)] at h3
      exact hc w List.mem_cons_self (List.mem_of_getElem? h3)
  | cons v ws ih =>
    intro w pre fd free limit hc hf hs hl
    have eL : pre ++ joinL (c :: sr) (w :: v :: ws) = (pre ++ w ++ (c :: sr)) ++ joinL (c :: sr) (v :: ws) := by
      show pre ++ (w ++ (c :: sr) ++ joinL (c :: sr) (v :: ws)) = _
      simp
    have lp : (pre ++ w ++ (c :: sr)).length = pre.length + w.length + (sr.length + 1) := by simp; omega
    obtain ⟨fr, e⟩ := ih v (pre ++ w ++ (c :: sr)) (fd.push (pre.length + w.length)) (pre.length + w.length + (sr.length + 1)) limit (fun x hx => hc x (List.mem_cons_of_mem _ hx)) (by omega) (by rw [Array.size_push]; omega) (by rw [← eL]; exact hl)
    refine ⟨fr, ?_⟩
    rw [← eL, lp] at e
    have rg : List.range' pre.length ((joinL (c :: sr) (w :: v :: ws)).length + 1) = List.range' pre.length w.length ++ ((pre.length + w.length) :: (List.range' (pre.length + w.length + 1) sr.length ++ List.range' (pre.length + w.length + (sr.length + 1)) ((joinL (c :: sr) (v :: ws)).length + 1))) := by
      rw [join_len, List.length_cons]
      rw [show pre.length + w.length + (sr.length + 1) = (pre.length + w.length + 1) + 1 * sr.length by omega, List.range'_append, ← List.range'_succ, ]
      rw [show pre.length + w.length = pre.length + 1 * w.length by omega, List.range'_append]
      congr 1
      omega
    generalize hL : pre ++ joinL (c :: sr) (w :: v :: ws) = L at e hl ⊢
    have lL : L.length = pre.length + w.length + (sr.length + 1) + (joinL (c :: sr) (v :: ws)).length := by rw [← hL, eL, List.length_append, lp]
    have s1 := occ_skip (tx L) (tx (c :: sr)) L.length limit (List.range' pre.length w.length) fd free (fun i hi => by
      obtain ⟨k, hk, rfl⟩ := List.mem_range'.mp hi
      right
      rintro ⟨h1, h2⟩
      rw [sub_iff] at h2
      have h3 : L[pre.length + 1 * k]? = some c := by
        have := congrArg (·[0]?) h2
        simp only [List.getElem?_take, List.getElem?_drop] at this
        simpa using this
      rw [← hL, eL, List.append_assoc, List.append_assoc, List.getElem?_append_right (by omega), List.getElem?_append_left (by omega)] at h3
      exact hc w List.mem_cons_self (List.mem_of_getElem? h3))
    have s2 := occ_skip (tx L) (tx (c :: sr)) L.length limit (List.range' (pre.length + w.length + 1) sr.length) (fd.push (pre.length + w.length)) (pre.length + w.length + (sr.length + 1)) (fun i hi => by
      obtain ⟨k, hk, rfl⟩ := List.mem_range'.mp hi
      left
      omega)
    have hit : ((fd.size < limit ∧ free ≤ pre.length + w.length) ∧ pre.length + w.length + (tx (c :: sr)).length ≤ L.length) ∧ subAt (tx L) (tx (c :: sr)) (pre.length + w.length) = true := by
      refine ⟨⟨⟨by omega, by omega⟩, by rw [tx_len, List.length_cons]; omega⟩, ?_⟩
      rw [sub_iff, ← hL, eL, List.append_assoc, List.append_assoc, List.drop_append, List.drop_of_length_le (by omega), List.nil_append, show pre.length + w.length - pre.length = w.length by omega, List.drop_append, List.drop_of_length_le (Nat.le_refl _), List.nil_append, Nat.sub_self, List.drop_zero, List.take_append_of_le_length (Nat.le_refl _), List.take_of_length_le (Nat.le_refl _)]
    rw [rg, occ_app, s1]
    show (forIn ((pre.length + w.length) :: (List.range' (pre.length + w.length + 1) sr.length ++ List.range' (pre.length + w.length + (sr.length + 1)) ((joinL (c :: sr) (v :: ws)).length + 1))) (fd, free) (occBody (tx L) (tx (c :: sr)) L.length limit) : Id _) = _
    rw [List.forIn_cons]
    have hb : occBody (tx L) (tx (c :: sr)) L.length limit (pre.length + w.length) (fd, free) = (pure (ForInStep.yield (fd.push (pre.length + w.length), pre.length + w.length + (sr.length + 1))) : Id _) := by
      unfold occBody
      rw [if_pos hit, tx_len, List.length_cons]
    rw [hb]
    show (forIn (List.range' (pre.length + w.length + 1) sr.length ++ List.range' (pre.length + w.length + (sr.length + 1)) ((joinL (c :: sr) (v :: ws)).length + 1)) (fd.push (pre.length + w.length), pre.length + w.length + (sr.length + 1)) (occBody (tx L) (tx (c :: sr)) L.length limit) : Id _) = _
    rw [occ_app, s2]
    show (forIn (List.range' (pre.length + w.length + (sr.length + 1)) ((joinL (c :: sr) (v :: ws)).length + 1)) (fd.push (pre.length + w.length), pre.length + w.length + (sr.length + 1)) (occBody (tx L) (tx (c :: sr)) L.length limit) : Id _) = _
    rw [e]
    show (pure (fd.push _ ++ _, fr) : Id _) = pure (fd ++ (List.toArray (_ :: _)), fr)
    congr 2
    simp [cutsP]
theorem strSub_tx (L : List Nat) (i j : Nat) : PySem.Builtin.Str.strSub (tx L) i j = tx ((L.drop i).take (j - i)) := by
  unfold PySem.Builtin.Str.strSub tx
  simp [List.extract_eq_drop_take]
theorem parts_join (sep : List Nat) : ∀ (ws : List (List Nat)) (w pre : List Nat), ((pre.length :: (cutsP sep.length pre.length (w :: ws)).map (· + sep.length)).zip (cutsP sep.length pre.length (w :: ws) ++ [(pre ++ joinL sep (w :: ws)).length])).map (fun p => PySem.Builtin.Str.strSub (tx (pre ++ joinL sep (w :: ws))) p.1 p.2) = (w :: ws).map tx := by
  intro ws
  induction ws with
  | nil =>
    intro w pre
    show [PySem.Builtin.Str.strSub (tx (pre ++ w)) pre.length (pre ++ w).length] = [tx w]
    rw [strSub_tx, List.drop_left, List.length_append, show pre.length + w.length - pre.length = w.length by omega, List.take_length]
  | cons v ws ih =>
    intro w pre
    have eL : pre ++ joinL sep (w :: v :: ws) = (pre ++ w ++ sep) ++ joinL sep (v :: ws) := by
      show pre ++ (w ++ sep ++ joinL sep (v :: ws)) = _
      simp
    have lp : (pre ++ w ++ sep).length = pre.length + w.length + sep.length := by simp; omega
    have e := ih v (pre ++ w ++ sep)
    rw [← eL, lp] at e
    show PySem.Builtin.Str.strSub (tx (pre ++ joinL sep (w :: v :: ws))) pre.length (pre.length + w.length) :: _ = tx w :: (v :: ws).map tx
    rw [← e, strSub_tx]
    congr 1
    rw [show pre ++ joinL sep (w :: v :: ws) = pre ++ (w ++ (sep ++ joinL sep (v :: ws))) by rw [eL]; simp, List.drop_left, show pre.length + w.length - pre.length = w.length by omega, List.take_left]
open PySem.StrLaws PySem.Builtin.Str in
/-- a text joined of words without the separator's first sign, split again -/
theorem split_join (c : Nat) (sr : List Nat) (w : List Nat) (ws : List (List Nat)) (hc : ∀ x ∈ w :: ws, c ∉ x) (h8 : ∀ x ∈ joinL (c :: sr) (w :: ws), x < 256) (hs : ∀ x ∈ c :: sr, x < 256) : PySem.Txt.split (tx (joinL (c :: sr) (w :: ws))) (tx (c :: sr)) = (w :: ws).map tx := by
  have one : ∀ l : List Nat, (∀ x ∈ l, x < 256) → PySem.Builtin.Str.strKind (tx l) = 1 := fun l h => by
    unfold PySem.Builtin.Str.strKind
    rw [if_pos]
    show (l.toArray).all _ = true
    rw [List.all_toArray]
    exact List.all_eq_true.mpr fun x hx => decide_eq_true (h x hx)
  obtain ⟨fr, e⟩ := occ_join c sr ws w [] #[] 0 ((joinL (c :: sr) (w :: ws)).length + 1) hc (Nat.zero_le _) (Nat.zero_le _) (Nat.lt_succ_self _)
  have oc : occurrences (tx (joinL (c :: sr) (w :: ws))) (tx (c :: sr)) 0 (tx (joinL (c :: sr) (w :: ws))).length ((tx (joinL (c :: sr) (w :: ws))).length + 1) = cutsP (sr.length + 1) 0 (w :: ws) := by
    rw [occ_eq, tx_len, Nat.sub_zero]
    have e' : (forIn (List.range' 0 ((joinL (c :: sr) (w :: ws)).length + 1)) ((#[] : Array Nat), 0) (occBody (tx (joinL (c :: sr) (w :: ws))) (tx (c :: sr)) (joinL (c :: sr) (w :: ws)).length ((joinL (c :: sr) (w :: ws)).length + 1))) = (pure (#[] ++ (cutsP (sr.length + 1) 0 (w :: ws)).toArray, fr) : Id _) := e
    rw [e']
    simp
  have pj := parts_join (c :: sr) ws w []
  unfold PySem.Txt.split
  rw [oc, one _ h8, one _ hs]
  cases ws with
  | nil =>
    have : joinL (c :: sr) [w] = w := rfl
    rw [this]
    split
    · rfl
    · have e0 : cutsP (sr.length + 1) 0 [w] = [] := rfl
      rw [e0]
      rfl
  | cons v ws =>
    rw [if_neg (by
      rw [tx_len, tx_len, join_len, List.length_cons]
      simp
      omega), if_neg (by simp [cutsP])]
    rw [tx_len]
    exact pj
theorem glued_tx (sep : List Nat) : ∀ (ws : List (List Nat)) (w : List Nat), PySem.Txt.join (tx sep) ((w :: ws).map tx) = tx (joinL sep (w :: ws)) := by
  have aux : ∀ (ws : List (List Nat)) (acc : List Nat), ((ws.map tx).foldl (fun (a : Array Nat) (p : Str) => a ++ (tx sep).cps ++ p.cps) acc.toArray) = (acc ++ (ws.map fun x => sep ++ x).flatten).toArray := by
    intro ws
    induction ws with
    | nil => intro acc; simp
    | cons x ws ih =>
      intro acc
      rw [List.map_cons, List.foldl_cons]
      have : acc.toArray ++ (tx sep).cps ++ (tx x).cps = (acc ++ sep ++ x).toArray := by simp [tx]
      rw [this, ih]
      simp
  have jn : ∀ (ws : List (List Nat)) (w : List Nat), joinL sep (w :: ws) = w ++ (ws.map fun x => sep ++ x).flatten := by
    intro ws
    induction ws with
    | nil => intro w; simp [joinL]
    | cons v ws ih =>
      intro w
      show w ++ sep ++ joinL sep (v :: ws) = _
      rw [ih v]
      simp
  intro ws w
  rw [jn]
  show (⟨(ws.map tx).foldl _ (tx w).cps⟩ : Str) = _
  have := aux ws w
  unfold tx at this ⊢
  simp only
  rw [this]
theorem s_minus : Str.ofString "-" = tx [45] := by decide +kernel
theorem s_nought : Str.ofString "0" = tx [48] := by decide +kernel
theorem s_none : Str.ofString "" = tx [] := by decide +kernel
theorem s_digits : Str.ofString "0123456789" = tx [48, 49, 50, 51, 52, 53, 54, 55, 56, 57] := by decide +kernel
theorem must_ok (S : Sto) : Fmust [.bl true] S = .ok .non S := by
  simp only [Fmust, runD, bmust, go0, goS, Bool.not_true, Bool.false_eq_true, if_false]
  exact fin_same rfl
theorem in_digits (c : Nat) (S : Sto) (h : 48 ≤ c ∧ c ≤ 57) : inD false (.str (tx [c])) (.str "0123456789") S = .ok (.bl true) S := by
  rw [s_digits]
  show Res.ok (D.bl (if (false : Bool) = true then _ else !(PySem.Builtin.Str.occurrences (tx [48, 49, 50, 51, 52, 53, 54, 55, 56, 57]) (tx [c]) 0 (tx [48, 49, 50, 51, 52, 53, 54, 55, 56, 57]).length 1).isEmpty)) S = _
  rw [if_neg Bool.false_ne_true, show tx [c] = ⟨#[c]⟩ from rfl, PySem.StrLaws.found_one, tx_list]
  have : c ∈ [48, 49, 50, 51, 52, 53, 54, 55, 56, 57] := by
    simp only [List.mem_cons, List.not_mem_nil, or_false]
    omega
  rw [decide_eq_true this]
theorem whole_ok (S : Sto) (l d : List Nat) (hd : d = if l.take 1 = [45] then l.drop 1 else l) (hA : Asc l) (hl : l.length < 640) (ne : d ≠ []) (dg : ∀ c ∈ d, 48 ≤ c ∧ c ≤ 57) (hz : d.head? ≠ some 48 ∨ l = [48]) (n : Int) (hn : PySem.intText? (tx l) = some n) : Fwhole_in [.str (tx l)] S = .ok (.int n) S := by
  have hld : d.length ≤ l.length := by
    rw [hd]
    split
    · rw [List.length_drop]; omega
    · omega
  have hAd : Asc d := fun c hc => by have := dg c hc; omega
  have s1 : slD (.str (tx l)) none (some 1) S = .ok (.str (tx (l.take 1))) S := by
    rw [tx_sl S (by omega), show (1 : Int) = ((1 : Nat) : Int) from rfl, cut_to]
  have s2 : slD (.str (tx l)) (some 1) none S = .ok (.str (tx (l.drop 1))) S := by
    rw [tx_sl S (by omega), show (1 : Int) = ((1 : Nat) : Int) from rfl, cut_from]
  have e1 : eqD false (.str (tx (l.take 1))) (.str "-") S = .ok (.bl (decide (l.take 1 = [45]))) S := by
    rw [s_minus]
    exact tx_eqF (fun c hc => hA c (List.mem_of_mem_take hc)) (fun c hc => by rw [List.mem_singleton.mp hc]; decide) S
  have v1 : (eIf (eTB (e2 (eqD false) (eSl (eVar 0) pN (pE (eC (.int 1)))) (eC (.str "-")))) (eSl (eVar 0) (pE (eC (.int 1))) pN) (eVar 0)) [some (.str (tx l)), none, none] S = .ok (.str (tx d)) S := by
    by_cases h : l.take 1 = [45]
    · rw [if_pos h] at hd
      simp only [goS, s1, e1, decide_eq_true h, if_true, s2, hd]
    · rw [if_neg h] at hd
      simp only [goS, s1, e1, decide_eq_false h, Bool.false_eq_true, if_false, hd]
  have q2 : eqD true (.str (tx d)) (.str "") S = .ok (.bl true) S := by
    rw [s_none, tx_eqT hAd (fun c hc => absurd hc List.not_mem_nil), decide_eq_false ne]
    rfl
  have lc : nLc [2] (.nm 2) (iTx (eVar 1)) tYesD (e2 (inD false) (eVar 2) (eC (.str "0123456789"))) [some (.str (tx l)), some (.str (tx d)), none] S = .ok (.lst ((d.map fun _ => true).map D.bl)) S := by
    refine nLcTx (x := tx d) rfl (by rw [tx_len]; omega) ?_
    rw [tx_signs, List.map_map]
    exact lc_all (tg := .nm 2) (fun c => D.str (tx [c])) (fun _ => D.bl true) d fun c hc => ⟨_, rfl, by simp only [goS, in_digits c S (dg c hc)]⟩
  have al : boolsD (fun bs => bs.all id) [.lst ((d.map fun _ => true).map D.bl)] S = .ok (.bl true) S := by
    rw [boolsD_map]
    congr 2
    exact List.all_eq_true.mpr fun b hb => by
      obtain ⟨_, _, rfl⟩ := List.mem_map.mp hb
      rfl
  obtain ⟨x, xs, ex⟩ : ∃ x xs, d = x :: xs := by
    cases q : d with
    | nil => exact absurd q ne
    | cons x xs => exact ⟨x, xs, rfl⟩
  have i0 : ixD (.str (tx d)) (.int 0) S = .ok (.str (tx [x])) S := tx_ix S (by omega) (by rw [show (0 : Int) = ((0 : Nat) : Int) from rfl, atI_cast, ex]; rfl)
  have hx := dg x (by rw [ex]; exact List.mem_cons_self)
  have e3 : eqD true (.str (tx [x])) (.str "0") S = .ok (.bl (!decide ([x] = [48]))) S := by
    rw [s_nought]
    exact tx_eqT (fun c hc => by rw [List.mem_singleton.mp hc]; omega) (fun c hc => by rw [List.mem_singleton.mp hc]; decide) S
  have e4 : eqD false (.str (tx l)) (.str "0") S = .ok (.bl (decide (l = [48]))) S := by
    rw [s_nought]
    exact tx_eqF hA (fun c hc => by rw [List.mem_singleton.mp hc]; decide) S
  have it : intT [.str (tx l)] S = .ok (.int n) S := by
    unfold intT
    simp only [hn]
    rw [if_pos (by rw [tx_len]; omega)]
  have m := must_ok S
  by_cases hx0 : [x] = [48]
  · have hl48 : l = [48] := by
      rcases hz with z | z
      · rw [ex, (List.cons.inj hx0).1] at z
        exact absurd rfl z
      · exact z
    show retD .frz S (bwhole_in [some (.str (tx l)), none, none] S) = _
    unfold bwhole_in
    rw [ap_Seq, ap_Set, v1]
    simp only [goS, q2, lc, al, m, i0, e3, decide_eq_true hx0, Bool.not_true, Bool.false_eq_true, if_false, if_true, e4, decide_eq_true hl48, it]
    exact fin_same rfl
  · show retD .frz S (bwhole_in [some (.str (tx l)), none, none] S) = _
    unfold bwhole_in
    rw [ap_Seq, ap_Set, v1]
    simp only [goS, q2, lc, al, m, i0, e3, decide_eq_false hx0, Bool.not_false, if_true, it]
    exact fin_same rfl
theorem whole_dec (S : Sto) (i : Int) (h : (decI i).length < 640) : Fwhole_in [.str (tx (decI i))] S = .ok (.int i) S := by
  have hn := int_decI i (by omega)
  cases i with
  | ofNat n =>
    have hd : ∀ c ∈ dec n, 48 ≤ c ∧ c ≤ 57 := fun c hc => dec_digit hc
    have nt : ¬ (dec n).take 1 = [45] := fun z => by
      have : (45 : Nat) ∈ dec n := List.mem_of_mem_take (by rw [z]; exact List.mem_singleton_self _)
      have := hd 45 this
      omega
    refine whole_ok S _ (dec n) (by show dec n = if (dec n).take 1 = [45] then _ else dec n; rw [if_neg nt]) (fun c hc => by have := hd c hc; omega) h (dec_ne n) hd ?_ _ hn
    by_cases z : n = 0
    · subst z
      exact .inr (by decide +kernel)
    · exact .inl fun e => z ((dec_head n).mp e)
  | negSucc n =>
    have hd : ∀ c ∈ dec (n + 1), 48 ≤ c ∧ c ≤ 57 := fun c hc => dec_digit hc
    refine whole_ok S _ (dec (n + 1)) (by
      have t1 : (decI (Int.negSucc n)).take 1 = [45] := rfl
      rw [if_pos t1]
      rfl) (fun c hc => by
      rcases List.mem_cons.mp hc with rfl | hc
      · decide
      · have := hd c hc
        omega) h (dec_ne _) hd (.inl fun e => absurd ((dec_head (n + 1)).mp e) (by omega)) _ hn
theorem decI_sign {i : Int} {c : Nat} (h : c ∈ decI i) : c = 45 ∨ (48 ≤ c ∧ c ≤ 57) := by
  cases i with
  | ofNat n => exact .inr (dec_digit h)
  | negSucc n =>
    rcases List.mem_cons.mp h with h | h
    · exact .inl h
    · exact .inr (dec_digit h)
theorem split_tx (S : Sto) (c : Nat) (sr w : List Nat) (ws : List (List Nat)) (hc : ∀ x ∈ w :: ws, c ∉ x) (h8 : ∀ x ∈ joinL (c :: sr) (w :: ws), x < 256) (hs : ∀ x ∈ c :: sr, x < 256) (hl : (joinL (c :: sr) (w :: ws)).length < 1000000) {f g : Ev D} {e : En} (hf : f e S = .ok (.str (tx (joinL (c :: sr) (w :: ws)))) S) (hg : g e S = .ok (.str (tx (c :: sr))) S) :
    nSplit f g e S = .ok (.lst ((w :: ws).map fun x => D.str (tx x))) S := by
  unfold nSplit
  rw [hf, Res.bind_ok]
  simp only
  rw [hg, Res.bind_ok]
  simp only
  rw [if_pos ⟨by rw [tx_len]; rfl, by rw [tx_len]; exact Nat.le_of_lt (sz (by omega))⟩, split_join c sr w ws hc h8 hs, List.map_map]
  rfl
theorem pair_ok (S : Sto) (a b : Int) (c : Nat) (hc : c ≠ 45 ∧ ¬ (48 ≤ c ∧ c ≤ 57)) (h8 : c < 256) (ha : (decI a).length < 640) (hb : (decI b).length < 640) : Fpair_in [.str (tx (decI a ++ [c] ++ decI b)), .str (tx [c])] S = .ok (.tup [.int a, .int b]) S := by
  have no : ∀ i : Int, c ∉ decI i := fun i h => (decI_sign h).elim hc.1 hc.2
  have lt : ∀ (i : Int) (x : Nat), x ∈ decI i → x < 256 := fun i x h => by have := decI_sign h; omega
  have sp := split_tx (f := eVar 0) (g := eVar 1) (e := [some (.str (tx (decI a ++ [c] ++ decI b))), some (.str (tx [c])), none]) S c [] (decI a) [decI b] (fun x hx => by
    simp only [List.mem_cons, List.not_mem_nil, or_false] at hx
    rcases hx with rfl | rfl
    · exact no a
    · exact no b) (fun x hx => by
    have hx : x ∈ decI a ++ [c] ++ decI b := hx
    rcases List.mem_append.mp hx with hx | hx
    · rcases List.mem_append.mp hx with hx | hx
      · exact lt a x hx
      · rw [List.mem_singleton.mp hx]; exact h8
    · exact lt b x hx) (fun x hx => by rw [List.mem_singleton.mp hx]; exact h8) (by
    show (decI a ++ [c] ++ decI b).length < _
    simp
    omega) rfl rfl
  have m := must_ok S
  have ln : lenD [.lst [.str (tx (decI a)), .str (tx (decI b))]] S = .ok (.int 2) S := rfl
  have x0 : ixD (.lst [.str (tx (decI a)), .str (tx (decI b))]) (.int 0) S = .ok (.str (tx (decI a))) S := rfl
  have x1 : ixD (.lst [.str (tx (decI a)), .str (tx (decI b))]) (.int 1) S = .ok (.str (tx (decI b))) S := rfl
  have q2 : eqD false (.int 2) (.int 2) S = .ok (.bl true) S := by rw [eqD_int]; rfl
  have sp' : nSplit (eVar 0) (eVar 1) [some (.str (tx (decI a ++ [c] ++ decI b))), some (.str (tx [c])), none] S = .ok (.lst [.str (tx (decI a)), .str (tx (decI b))]) S := sp
  simp only [Fpair_in, runD, bpair_in, go0, goS, sp', ln, q2, m, x0, x1, whole_dec S a ha, whole_dec S b hb]
  exact fin_same rfl
theorem strI_tx (S : Sto) (i : Int) (h : i.natAbs.log2 < 1920) : strI [.int i] S = .ok (.str (tx (decI i))) S := by
  unfold strI
  simp only
  rw [if_pos h, decI_str]
theorem s_dot : Str.ofString "." = tx [46] := by decide +kernel
theorem show_addr (S : Sto) (a b : Int) (ha : a.natAbs.log2 < 1920) (hb : b.natAbs.log2 < 1920) (la : (decI a).length < 640) (lb : (decI b).length < 640) : Fshow_address [.tup [.int a, .int b]] S = .ok (.str (tx (decI a ++ [46] ++ decI b))) S := by
  have x0 : ixD (.tup [.int a, .int b]) (.int 0) S = .ok (.int a) S := rfl
  have x1 : ixD (.tup [.int a, .int b]) (.int 1) S = .ok (.int b) S := rfl
  have a1 := tx_add (a := decI a) (b := [46]) S (by simp; omega)
  have a2 := tx_add (a := decI a ++ [46]) (b := decI b) S (by simp; omega)
  simp only [Fshow_address, runD, bshow_address, go0, goS, x0, x1, strI_tx S a ha, strI_tx S b hb, s_dot, a1, a2]
  exact fin_same rfl
theorem exc_same {S : Sto} {c : Str} {e : En} : retD .frz S (.exc c e S) = .exc c S := by
  show (if Clo S S then (Res.exc c (S.take S.length) : Res D) else .bad) = _
  rw [if_pos .refl, List.take_length]
theorem ap_raise {x : Str} {e : En} {S : Sto} : sRaise x e S = .exc x e S := id rfl
theorem seq_exc {c : Str} {e : En} {S : Sto} {b : Stm} : (SRes.exc c e S).seq b = .exc c e S := id rfl
theorem stm_exc {α : Type} {c : Str} {S : Sto} {e : En} {k : α → Sto → SRes} : (Res.exc c S : Res α).stm e k = .exc c e S := id rfl
theorem bind_exc {α β : Type} {c : Str} {S : Sto} {k : α → Sto → Res β} : (Res.exc c S : Res α).bind k = .exc c S := id rfl
theorem try_ret {ks : List (Str × Bool)} {i : Nat} {u : Stm} {hd : Str → Stm} {e : En} {S S1 : Sto} {d : D} (h : u e S = .ret d S1) : sTry ks i u hd e S = .ret d S1 := by
  unfold sTry
  rw [h]
theorem try_got {ks : List (Str × Bool)} {i : Nat} {u : Stm} {hd : Str → Stm} {e e1 : En} {S S1 S2 : Sto} {c : Str} {d : D} (h : u e S = .exc c e1 S1) (hl : ks.lookup c = some true) (h9 : e1[i]?.isSome = true) (h2 : hd c (e1.set i none) S1 = .ret d S2) : sTry ks i u hd e S = .ret d S2 := by
  unfold sTry
  rw [h]
  simp only [hl, h9, if_true, h2]
theorem inT_ints {k : Int} {xs : List Int} {neg : Bool} {S : Sto} : inD neg (.int k) (intsT xs) S = .ok (.bl (if neg = true then !decide (k ∈ xs) else decide (k ∈ xs))) S := by
  have h1 : (xs.map D.int).all flatD = true := by
    rw [List.all_eq_true]
    intro d hd
    obtain ⟨i, _, e⟩ := List.mem_map.mp hd
    subst e
    rfl
  have h2 : ((xs.map D.int).any fun z => fEq z (.int k)) = decide (k ∈ xs) := by
    rw [List.any_map]
    by_cases h : k ∈ xs
    · rw [decide_eq_true h, List.any_eq_true]
      exact ⟨k, h, by show (k == k) = true; simp⟩
    · rw [decide_eq_false h, List.any_eq_false]
      intro i hi
      show ¬ (i == k) = true
      intro e
      exact h (by rw [← of_decide_eq_true e]; exact hi)
  show inD neg (.int k) (.tup (xs.map D.int)) S = _
  unfold inD
  simp only [dcOf]
  rw [if_pos ⟨rfl, h1⟩, h2]
theorem inL_rp {α : Type} [DecidableEq α] {f : α → D} {n : Nat} (hf : Rp f n) (hn : n < 64) (x : α) (xs : List α) (neg : Bool) (S : Sto) : inD neg (f x) (.lst (xs.map f)) S = .ok (.bl (if neg = true then !decide (x ∈ xs) else decide (x ∈ xs))) S := by
  have h1 : SeqAt.shaped (.list (pys (xs.map f))) = true := by
    have := hf.ls.shp (by omega) xs S
    have e : pyOf S (lsD f xs) = .list (pys (xs.map f)) := hf.ls.flat xs S
    unfold Pu.shp at this
    rw [e] at this
    simpa using this
  have h0 : SeqAt.shaped (f x).py = true := by
    have := hf.shp (by omega) x S
    unfold Pu.shp at this
    rw [hf.flat] at this
    simpa using this
  have h2 : ((pys (xs.map f)).any fun z => PyData.eqv z (f x).py) = decide (x ∈ xs) := by
    clear h1
    induction xs with
    | nil => rfl
    | cons y xs ih =>
      rw [List.map_cons]
      show (PyData.eqv (f y).py (f x).py || (pys (xs.map f)).any _) = _
      rw [ih]
      have : PyData.eqv (f y).py (f x).py = decide (y = x) := by
        by_cases e : y = x
        · rw [decide_eq_true e]; exact (hf.eqv y x).mpr e
        · rw [decide_eq_false e]
          exact Bool.eq_false_iff.mpr fun h => e ((hf.eqv y x).mp h)
      rw [this]
      by_cases e : y = x
      · simp [e]
      · simp [e, show ¬ x = y from fun z => e z.symm]
  unfold inD
  simp only [dcOf, lsOf]
  rw [if_pos ⟨h0, h1⟩, h2]
noncomputable def Dgt (c : Nat) : Prop := 48 ≤ c ∧ c ≤ 57
noncomputable instance (c : Nat) : Decidable (Dgt c) := by unfold Dgt; infer_instance
/-- no more than k digits one behind the other -/
noncomputable def Run (k : Nat) (l : List Nat) : Prop := ∀ a b c, l = a ++ b ++ c → (∀ x ∈ b, Dgt x) → b.length ≤ k
theorem Run.mono {k j : Nat} {l : List Nat} (h : Run k l) (hk : k ≤ j) : Run j l := fun a b c e d => Nat.le_trans (h a b c e d) hk
theorem Run.of_len (l : List Nat) : Run l.length l := fun a b c e _ => by
  have := congrArg List.length e
  simp only [List.length_append] at this
  omega
theorem Run.sub {k : Nat} {p m q : List Nat} (h : Run k (p ++ m ++ q)) : Run k m := fun a b c e d => h (p ++ a) b (c ++ q) (by rw [e]; simp) d
theorem Run.take {k : Nat} {l : List Nat} (h : Run k l) (n : Nat) : Run k (l.take n) := Run.sub (p := []) (q := l.drop n) (by simpa using h)
theorem Run.drop {k : Nat} {l : List Nat} (h : Run k l) (n : Nat) : Run k (l.drop n) := Run.sub (p := l.take n) (q := []) (by simpa using h)
theorem inf_app {p q a b c : List Nat} (e : p ++ q = a ++ b ++ c) : (∃ d, p = a ++ b ++ d) ∨ (∃ u v, b = u ++ v ∧ p = a ++ u ∧ q = v ++ c) ∨ ∃ d, q = d ++ b ++ c := by
  rcases List.append_eq_append_iff.mp e with ⟨d, e1, e2⟩ | ⟨d, e1, e2⟩
  · -- a ++ b = p ++ d, q = d ++ c
    rcases List.append_eq_append_iff.mp e1 with ⟨u, e3, e4⟩ | ⟨u, e3, e4⟩
    · exact .inr (.inl ⟨u, d, e4, e3, e2⟩)
    · exact .inr (.inr ⟨u, by rw [e2, e4]⟩)
  · exact .inl ⟨d, e1⟩
theorem Run.app {k j : Nat} {p q : List Nat} (hp : Run k p) (hq : Run j q) : Run (k + j) (p ++ q) := fun a b c e d => by
  rcases inf_app e with ⟨x, h⟩ | ⟨u, v, e1, e2, e3⟩ | ⟨x, h⟩
  · have := hp a b x h d
    omega
  · have h1 := hp a u [] (by rw [e2]; simp) fun x hx => d x (by rw [e1]; exact List.mem_append_left _ hx)
    have h2 := hq [] v c (by rw [e3]; simp) fun x hx => d x (by rw [e1]; exact List.mem_append_right _ hx)
    rw [e1, List.length_append]
    omega
  · have := hq x b c h d
    omega
theorem Run.sep {k : Nat} {p q : List Nat} {s : Nat} (hp : Run k p) (hq : Run k q) (hs : ¬ Dgt s) : Run k (p ++ s :: q) := fun a b c e d => by
  rcases inf_app e with ⟨x, h⟩ | ⟨u, v, e1, e2, e3⟩ | ⟨x, h⟩
  · exact hp a b x h d
  · cases v with
    | nil =>
      rw [List.append_nil] at e1
      rw [e1]
      exact hp a u [] (by rw [e2]; simp) fun x hx => d x (by rw [e1]; exact hx)
    | cons y v =>
      have ey : s = y := by rw [List.cons_append] at e3; exact (List.cons.inj e3).1
      exact absurd (d y (by rw [e1]; simp)) (by rw [← ey]; exact hs)
  · cases x with
    | nil =>
      cases b with
      | nil => exact Nat.zero_le _
      | cons y b =>
        have ey : s = y := (List.cons.inj h).1
        exact absurd (d y List.mem_cons_self) (by rw [← ey]; exact hs)
    | cons y x =>
      have eq : q = x ++ b ++ c := by
        have := (List.cons.inj h).2
        exact this
      exact hq x b c eq d
theorem Run.nil {k : Nat} : Run k [] := fun a b c e _ => by
  have := congrArg List.length e
  simp only [List.length_append, List.length_nil] at this
  omega
theorem Run.none {l : List Nat} (h : ∀ c ∈ l, ¬ Dgt c) {k : Nat} : Run k l := fun a b c e d => by
  cases b with
  | nil => exact Nat.zero_le _
  | cons y b => exact absurd (d y List.mem_cons_self) (h y (by rw [e]; simp))
theorem Run.join {k : Nat} {sep : List Nat} (hs : ∀ c ∈ sep, ¬ Dgt c) (hne : sep ≠ []) : ∀ ws : List (List Nat), (∀ w ∈ ws, Run k w) → Run k (joinL sep ws)
  | [], _ => Run.nil
  | [w], h => h w List.mem_cons_self
  | w :: v :: ws, h => by
    have ih := Run.join hs hne (v :: ws) fun x hx => h x (List.mem_cons_of_mem _ hx)
    show Run k (w ++ sep ++ joinL sep (v :: ws))
    have gen : ∀ (sep : List Nat), (∀ c ∈ sep, ¬ Dgt c) → ∀ (p q : List Nat), Run k p → Run k q → sep ≠ [] → Run k (p ++ sep ++ q) := by
      intro sep
      induction sep with
      | nil => intro _ p q _ _ z; exact absurd rfl z
      | cons s r ihr =>
        intro hs p q hp hq _
        cases r with
        | nil => rw [List.append_assoc]; exact hp.sep hq (hs s List.mem_cons_self)
        | cons s2 r =>
          have := ihr (fun c hc => hs c (List.mem_cons_of_mem _ hc)) [] q Run.nil hq (by simp)
          rw [List.nil_append] at this
          rw [List.append_assoc]
          exact hp.sep this (hs s List.mem_cons_self)
    exact gen sep hs w _ (h w List.mem_cons_self) ih hne
structure Tx (n k : Nat) (l : List Nat) : Prop where
  asc : ∀ c ∈ l, c < 256
  len : l.length ≤ n
  run : Run k l
theorem Tx.mono {n k m j : Nat} {l : List Nat} (h : Tx n k l) (h1 : n ≤ m) (h2 : k ≤ j) : Tx m j l := ⟨h.asc, Nat.le_trans h.len h1, h.run.mono h2⟩
theorem Tx.Asc {n k : Nat} {l : List Nat} (h : Tx n k l) : Lw.Asc l := fun c hc => by have := h.asc c hc; omega
theorem Tx.sub {n k : Nat} {l a w b : List Nat} (h : Tx n k l) (e : l = a ++ w ++ b) : Tx n k w := ⟨fun c hc => h.asc c (by rw [e]; simp [hc]), by
  have := h.len
  rw [e] at this
  simp only [List.length_append] at this
  omega, Run.sub (p := a) (q := b) (by rw [← e]; exact h.run)⟩
theorem Tx.take {n k : Nat} {l : List Nat} (h : Tx n k l) (i : Nat) : Tx n k (l.take i) := h.sub (a := []) (b := l.drop i) (by simp)
theorem Tx.drop {n k : Nat} {l : List Nat} (h : Tx n k l) (i : Nat) : Tx n k (l.drop i) := h.sub (a := l.take i) (b := []) (by simp)
theorem Tx.app {n k m j : Nat} {p q : List Nat} (hp : Tx n k p) (hq : Tx m j q) : Tx (n + m) (k + j) (p ++ q) := ⟨fun c hc => (List.mem_append.mp hc).elim (hp.asc c) (hq.asc c), by rw [List.length_append]; have := hp.len; have := hq.len; omega, hp.run.app hq.run⟩
theorem Tx.one {c : Nat} (h : c < 256) : Tx 1 1 [c] := ⟨fun x hx => by rw [List.mem_singleton.mp hx]; exact h, Nat.le_refl _, Run.of_len [c]⟩
theorem Tx.nil {n k : Nat} : Tx n k [] := ⟨fun _ h => absurd h List.not_mem_nil, Nat.zero_le _, Run.nil⟩
noncomputable def splW (sep l : List Nat) : List (List Nat) := (PySem.Txt.split (tx l) (tx sep)).map fun x => x.cps.toList
theorem tx_of (x : Str) : tx x.cps.toList = x := by
  cases x
  simp [tx]
open PySem.StrLaws PySem.Builtin.Str in
theorem occ_size (s sub : Str) (hi limit : Nat) : ∀ (l : List Nat) (fd : Array Nat) (free : Nat), ((forIn l (fd, free) (occBody s sub hi limit) : Id (Array Nat × Nat)).run).1.size ≤ fd.size + l.length
  | [], fd, free => by show fd.size ≤ _; omega
  | a :: l, fd, free => by
    rw [List.forIn_cons]
    unfold occBody
    split
    · have := occ_size s sub hi limit l (fd.push a) (a + sub.length)
      rw [Array.size_push] at this
      rw [List.length_cons]
      refine Nat.le_trans this ?_
      omega
    · have := occ_size s sub hi limit l fd free
      rw [List.length_cons]
      refine Nat.le_trans this ?_
      omega
open PySem.StrLaws PySem.Builtin.Str in
theorem spl_facts (sep l : List Nat) : PySem.Txt.split (tx l) (tx sep) = (splW sep l).map tx ∧ splW sep l ≠ [] ∧ (splW sep l).length ≤ l.length + 2 ∧ ∀ w ∈ splW sep l, ∃ a b, l = a ++ w ++ b := by
  have e0 : PySem.Txt.split (tx l) (tx sep) = (splW sep l).map tx := by
    unfold splW
    rw [List.map_map]
    refine (List.map_id _).symm.trans (List.map_congr_left fun x _ => (tx_of x).symm)
  have key : splW sep l = [l] ∨ ∃ ps : List (Nat × Nat), splW sep l = ps.map (fun p => (l.drop p.1).take (p.2 - p.1)) ∧ ps ≠ [] ∧ ps.length ≤ l.length + 2 := by
    unfold splW PySem.Txt.split
    split
    · left; simp [tx]
    · split
      · left; simp [tx]
      · right
        refine ⟨(0 :: (occurrences (tx l) (tx sep) 0 (tx l).length ((tx l).length + 1)).map (· + (tx sep).length)).zip (occurrences (tx l) (tx sep) 0 (tx l).length ((tx l).length + 1) ++ [(tx l).length]), ?_, ?_, ?_⟩
        · unfold partsBetween
          rw [List.map_map]
          refine List.map_congr_left fun p _ => ?_
          show (strSub (tx l) p.1 p.2).cps.toList = _
          rw [strSub_tx]
          simp [tx]
        · intro z
          have := congrArg List.length z
          simp at this
        · have h1 : (occurrences (tx l) (tx sep) 0 (tx l).length ((tx l).length + 1)).length ≤ l.length + 1 := by
            rw [occ_eq, tx_len, Nat.sub_zero]
            have := occ_size (tx l) (tx sep) l.length (l.length + 1) (List.range' 0 (l.length + 1)) #[] 0
            rw [List.length_range'] at this
            rw [Array.length_toList]
            refine Nat.le_trans this ?_
            simp
          rw [List.length_zip]
          simp only [List.length_cons, List.length_map, List.length_append, List.length_nil]
          omega
  rcases key with h | ⟨ps, h1, h2, h3⟩
  · refine ⟨e0, by rw [h]; simp, by rw [h]; simp, fun w hw => ?_⟩
    rw [h, List.mem_singleton] at hw
    subst hw
    exact ⟨[], [], by simp⟩
  · refine ⟨e0, by rw [h1]; simpa using h2, by rw [h1, List.length_map]; exact h3, fun w hw => ?_⟩
    rw [h1] at hw
    obtain ⟨p, _, rfl⟩ := List.mem_map.mp hw
    exact ⟨l.take p.1, (l.drop p.1).drop (p.2 - p.1), by rw [List.append_assoc, List.take_append_drop, List.take_append_drop]⟩
theorem spl_any (S : Sto) (sep l : List Nat) (hs : sep ≠ []) (hl : l.length < 1000000) {f g : Ev D} {e : En} (hf : f e S = .ok (.str (tx l)) S) (hg : g e S = .ok (.str (tx sep)) S) : nSplit f g e S = .ok (.lst ((splW sep l).map fun w => D.str (tx w))) S := by
  unfold nSplit
  rw [hf, Res.bind_ok]
  simp only
  rw [hg, Res.bind_ok]
  simp only
  rw [if_pos ⟨by rw [tx_len]; cases sep with | nil => exact absurd rfl hs | cons _ _ => rfl, by rw [tx_len]; exact Nat.le_of_lt (Pu.sz (by omega))⟩, (spl_facts sep l).1, List.map_map]
  rfl
theorem spl_tx {n k : Nat} {sep l w : List Nat} (h : Tx n k l) (hw : w ∈ splW sep l) : Tx n k w := by
  obtain ⟨a, b, e⟩ := (spl_facts sep l).2.2.2 w hw
  exact h.sub e
theorem in_dig (c : Nat) (S : Sto) : inD false (.str (tx [c])) (.str "0123456789") S = .ok (.bl (decide (Dgt c))) S := by
  rw [s_digits]
  show Res.ok (D.bl (if (false : Bool) = true then _ else !(PySem.Builtin.Str.occurrences (tx [48, 49, 50, 51, 52, 53, 54, 55, 56, 57]) (tx [c]) 0 (tx [48, 49, 50, 51, 52, 53, 54, 55, 56, 57]).length 1).isEmpty)) S = _
  rw [if_neg Bool.false_ne_true, show tx [c] = ⟨#[c]⟩ from rfl, PySem.StrLaws.found_one, tx_list]
  have : (c ∈ [48, 49, 50, 51, 52, 53, 54, 55, 56, 57]) ↔ Dgt c := by
    simp only [List.mem_cons, List.not_mem_nil, or_false]
    unfold Dgt
    omega
  congr 2
  exact decide_eq_decide.mpr this
noncomputable def sgL (l : List Nat) : List Nat := if l.take 1 = [45] then l.drop 1 else l
noncomputable def okW (l : List Nat) : Prop := sgL l ≠ [] ∧ (∀ c ∈ sgL l, Dgt c) ∧ ((sgL l).head? = some 48 → l = [48])
noncomputable instance (l : List Nat) : Decidable (okW l) := by unfold okW; infer_instance
noncomputable def wholeP (l : List Nat) : Option Int := if okW l then PySem.intText? (tx l) else none
theorem sgL_of (l : List Nat) : (l = sgL l ∧ l.take 1 ≠ [45]) ∨ l = 45 :: sgL l := by
  unfold sgL
  by_cases h : l.take 1 = [45]
  · rw [if_pos h]
    cases l with
    | nil => cases h
    | cons c l =>
      have : c = 45 := by simpa using h
      exact .inr (by rw [this]; rfl)
  · rw [if_neg h]; exact .inl ⟨rfl, h⟩
theorem okW_len {n k : Nat} {l : List Nat} (h : Tx n k l) (ok : okW l) : l.length ≤ k + 1 := by
  rcases sgL_of l with ⟨e, _⟩ | e
  · have := h.run [] l [] (by simp) (by rw [e]; exact ok.2.1)
    omega
  · have := h.run [45] (sgL l) [] (by rw [List.append_nil]; exact e) ok.2.1
    have h2 := congrArg List.length e
    rw [List.length_cons] at h2
    omega
theorem okW_val {l : List Nat} (ok : okW l) (hl : l.length ≤ 4300) : ∃ i, PySem.intText? (tx l) = some i := by
  rcases sgL_of l with ⟨e, _⟩ | e
  · have h1 : PySem.NumText.AllDigits (tx l).cps.toList := by
      rw [tx_list, e]
      exact ok.2.1
    exact ⟨_, PySem.intText_digits h1 (by rw [tx_list, e]; exact ok.1) (by rw [tx_len]; exact hl)⟩
  · exact ⟨_, PySem.intText_neg (cs := sgL l) (by rw [tx_list]; exact e) ok.2.1 ok.1 (by rw [tx_len]; exact hl)⟩
theorem okW_some {l : List Nat} (ok : okW l) (hl : l.length ≤ 4300) : ∃ i, wholeP l = some i ∧ PySem.intText? (tx l) = some i := by
  obtain ⟨i, hi⟩ := okW_val ok hl
  exact ⟨i, by unfold wholeP; rw [if_pos ok, hi], hi⟩
theorem nLcXS_lst' {vs : List Nat} {tg : Tg} {f g : Ev D} {t : Ev Bool} {e : En} {S : Sto} {xs : List D} {r : Res (List D)} (hf : f e S = .ok (.lst xs) S) (hl : xs.length < 1000000) (q : lcX tg (.tmp xs) t g (wipeE e vs) xs S = r) : nLcX vs tg (iS f) t g e S = r.bind fun ds S => .ok (.lst ds) S := by
  unfold nLcX
  rw [ap_iS, hf, Res.bind_ok]
  show ((Res.ok (Src.tmp xs) S).bind _) = _
  rw [Res.bind_ok]
  simp only [Src.items_tmp]
  rw [if_pos (Nat.le_of_lt (Pu.sz (by omega))), q]
noncomputable def oI : Option Int → D
  | none => .non
  | some i => .int i
theorem rpOI : Rp oI 0 := ⟨fun x y => by cases x <;> cases y <;> simp [oI, D.py, PyData.eqv], fun x => by cases x <;> rfl, fun x => by cases x <;> exact Nat.le_refl _, fun x S => by cases x <;> rfl, fun x => by cases x <;> rfl⟩
theorem must_no (S : Sto) : Fmust [.bl false] S = .exc "NoText" S := by
  simp only [Fmust, runD, bmust, go0, goS, Bool.not_false, if_true, ap_raise]
  exact exc_same
theorem sg_if (S : Sto) {n k : Nat} {l : List Nat} (h : Tx n k l) (hn : n < 1000000) : (eIf (eTB (e2 (eqD false) (eSl (eVar 0) pN (pE (eC (.int 1)))) (eC (.str "-")))) (eSl (eVar 0) (pE (eC (.int 1))) pN) (eVar 0)) [some (.str (tx l)), none, none] S = .ok (.str (tx (sgL l))) S := by
  have hl := h.len
  have s1 : slD (.str (tx l)) none (some 1) S = .ok (.str (tx (l.take 1))) S := by
    rw [tx_sl S (by omega), show (1 : Int) = ((1 : Nat) : Int) from rfl, cut_to]
  have s2 : slD (.str (tx l)) (some 1) none S = .ok (.str (tx (l.drop 1))) S := by
    rw [tx_sl S (by omega), show (1 : Int) = ((1 : Nat) : Int) from rfl, cut_from]
  have e1 : eqD false (.str (tx (l.take 1))) (.str "-") S = .ok (.bl (decide (l.take 1 = [45]))) S := by
    rw [s_minus]
    exact tx_eqF (h.take 1).Asc (fun c hc => by rw [List.mem_singleton.mp hc]; decide) S
  unfold sgL
  by_cases hh : l.take 1 = [45]
  · simp only [goS, s1, e1, decide_eq_true hh, if_true, s2, if_pos hh]
  · simp only [goS, s1, e1, decide_eq_false hh, Bool.false_eq_true, if_false, if_neg hh]
theorem sg_tx {n k : Nat} {l : List Nat} (h : Tx n k l) : Tx n k (sgL l) := by
  unfold sgL
  split
  · exact h.drop 1
  · exact h
theorem dg_lc (S : Sto) (l d : List Nat) (hd : d.length < 1000000) : nLc [2] (.nm 2) (iTx (eVar 1)) tYesD (e2 (inD false) (eVar 2) (eC (.str "0123456789"))) [some (.str (tx l)), some (.str (tx d)), none] S = .ok (.lst ((d.map fun c => decide (Dgt c)).map D.bl)) S := by
  refine nLcTx (x := tx d) rfl (by rw [tx_len]; omega) ?_
  rw [tx_signs, List.map_map]
  exact lc_all (tg := .nm 2) (fun c => D.str (tx [c])) (fun c => D.bl (decide (Dgt c))) d fun c hc => ⟨_, rfl, by simp only [goS, in_dig c S]⟩
theorem dg_all (d : List Nat) : ((d.map fun c => decide (Dgt c)).all id) = decide (∀ c ∈ d, Dgt c) := by
  rw [List.all_map]
  by_cases h : ∀ c ∈ d, Dgt c
  · rw [decide_eq_true h]
    exact List.all_eq_true.mpr fun c hc => decide_eq_true (h c hc)
  · rw [decide_eq_false h]
    refine Bool.eq_false_iff.mpr fun z => h fun c hc => of_decide_eq_true (List.all_eq_true.mp z c hc)
/-- a number by the law's reader -/
theorem whole_law (S : Sto) {n k : Nat} {l : List Nat} (h : Tx n k l) (hn : n < 1000000) (hk : k < 600) : F_law_whole_in [.str (tx l)] S = .ok (oI (wholeP l)) S := by
  have v1 := sg_if S h hn
  have hg := sg_tx h
  have hd := hg.len
  have lc := dg_lc S l (sgL l) (by omega)
  have q2 : eqD false (.str (tx (sgL l))) (.str "") S = .ok (.bl (decide (sgL l = []))) S := by
    rw [s_none]
    exact tx_eqF hg.Asc (fun c hc => absurd hc List.not_mem_nil) S
  have e4 : eqD true (.str (tx l)) (.str "0") S = .ok (.bl (!decide (l = [48]))) S := by
    rw [s_nought]
    exact tx_eqT h.Asc (fun c hc => by rw [List.mem_singleton.mp hc]; decide) S
  have al : boolsD (fun bs => bs.all id) [.lst (((sgL l).map fun c => decide (Dgt c)).map D.bl)] S = .ok (.bl (decide (∀ c ∈ sgL l, Dgt c))) S := by
    rw [boolsD_map, dg_all]
  show retD .frz S (b_law_whole_in [some (.str (tx l)), none, none] S) = _
  unfold b_law_whole_in
  rw [ap_Seq, ap_Set, v1]
  by_cases h0 : sgL l = []
  · have np : wholeP l = none := by unfold wholeP; rw [if_neg fun z => z.1 h0]
    rw [np]
    simp only [goS, q2, decide_eq_true h0, if_true]
    exact fin_same rfl
  · by_cases h1 : ∀ c ∈ sgL l, Dgt c
    · obtain ⟨x, xs, ex⟩ : ∃ x xs, sgL l = x :: xs := by
        cases q : sgL l with
        | nil => exact absurd q h0
        | cons x xs => exact ⟨x, xs, rfl⟩
      have i0 : ixD (.str (tx (sgL l))) (.int 0) S = .ok (.str (tx [x])) S := tx_ix S (by omega) (by rw [show (0 : Int) = ((0 : Nat) : Int) from rfl, atI_cast, ex]; rfl)
      have hx := h1 x (by rw [ex]; exact List.mem_cons_self)
      have e3 : eqD false (.str (tx [x])) (.str "0") S = .ok (.bl (decide ([x] = [48]))) S := by
        rw [s_nought]
        exact tx_eqF (fun c hc => by rw [List.mem_singleton.mp hc]; unfold Dgt at hx; omega) (fun c hc => by rw [List.mem_singleton.mp hc]; decide) S
      by_cases h2 : [x] = [48]
      · by_cases h3 : l = [48]
        · have ok : okW l := ⟨h0, h1, fun _ => h3⟩
          have hlen := okW_len h ok
          obtain ⟨i, e5, e6⟩ := okW_some ok (by omega)
          have it : intT [.str (tx l)] S = .ok (.int i) S := by
            unfold intT
            simp only [e6]
            rw [if_pos (by rw [tx_len]; omega)]
          rw [e5]
          simp only [goS, q2, decide_eq_false h0, lc, al, decide_eq_true h1, Bool.not_true, Bool.false_eq_true, if_false, i0, e3, decide_eq_true h2, if_true, e4, decide_eq_true h3, it]
          exact fin_same rfl
        · have np : wholeP l = none := by
            unfold wholeP
            rw [if_neg fun z => h3 (z.2.2 (by rw [ex, (List.cons.inj h2).1]; rfl))]
          rw [np]
          simp only [goS, q2, decide_eq_false h0, lc, al, decide_eq_true h1, Bool.not_true, Bool.not_false, Bool.false_eq_true, if_false, i0, e3, decide_eq_true h2, if_true, e4, decide_eq_false h3]
          exact fin_same rfl
      · have ok : okW l := ⟨h0, h1, fun z => by
          rw [ex] at z
          exact absurd (by rw [Option.some.inj z]) h2⟩
        have hlen := okW_len h ok
        obtain ⟨i, e5, e6⟩ := okW_some ok (by omega)
        have it : intT [.str (tx l)] S = .ok (.int i) S := by
          unfold intT
          simp only [e6]
          rw [if_pos (by rw [tx_len]; omega)]
        rw [e5]
        simp only [goS, q2, decide_eq_false h0, lc, al, decide_eq_true h1, Bool.not_true, Bool.false_eq_true, if_false, i0, e3, decide_eq_false h2, it]
        exact fin_same rfl
    · have np : wholeP l = none := by unfold wholeP; rw [if_neg fun z => h1 z.2.1]
      rw [np]
      simp only [goS, q2, decide_eq_false h0, lc, al, decide_eq_false h1, Bool.not_false, if_true]
      exact fin_same rfl
/-- .. and by the program's -/
theorem whole_any (S : Sto) {n k : Nat} {l : List Nat} (h : Tx n k l) (hn : n < 1000000) (hk : k < 600) : Fwhole_in [.str (tx l)] S = match wholeP l with
    | some i => .ok (.int i) S
    | none => .exc "NoText" S := by
  have v1 := sg_if S h hn
  have hg := sg_tx h
  have hd := hg.len
  have lc := dg_lc S l (sgL l) (by omega)
  have q2 : eqD true (.str (tx (sgL l))) (.str "") S = .ok (.bl (!decide (sgL l = []))) S := by
    rw [s_none]
    exact tx_eqT hg.Asc (fun c hc => absurd hc List.not_mem_nil) S
  have e4 : eqD false (.str (tx l)) (.str "0") S = .ok (.bl (decide (l = [48]))) S := by
    rw [s_nought]
    exact tx_eqF h.Asc (fun c hc => by rw [List.mem_singleton.mp hc]; decide) S
  have al : boolsD (fun bs => bs.all id) [.lst (((sgL l).map fun c => decide (Dgt c)).map D.bl)] S = .ok (.bl (decide (∀ c ∈ sgL l, Dgt c))) S := by
    rw [boolsD_map, dg_all]
  have my := must_ok S
  have mn := must_no S
  show retD .frz S (bwhole_in [some (.str (tx l)), none, none] S) = _
  unfold bwhole_in
  rw [ap_Seq, ap_Set, v1]
  by_cases h0 : sgL l = []
  · have np : wholeP l = none := by unfold wholeP; rw [if_neg fun z => z.1 h0]
    rw [np]
    simp only [goS, q2, decide_eq_true h0, Bool.not_true, Bool.false_eq_true, if_false, mn, bind_exc, stm_exc, seq_exc]
    exact exc_same
  · by_cases h1 : ∀ c ∈ sgL l, Dgt c
    · obtain ⟨x, xs, ex⟩ : ∃ x xs, sgL l = x :: xs := by
        cases q : sgL l with
        | nil => exact absurd q h0
        | cons x xs => exact ⟨x, xs, rfl⟩
      have i0 : ixD (.str (tx (sgL l))) (.int 0) S = .ok (.str (tx [x])) S := tx_ix S (by omega) (by rw [show (0 : Int) = ((0 : Nat) : Int) from rfl, atI_cast, ex]; rfl)
      have hx := h1 x (by rw [ex]; exact List.mem_cons_self)
      have e3 : eqD true (.str (tx [x])) (.str "0") S = .ok (.bl (!decide ([x] = [48]))) S := by
        rw [s_nought]
        exact tx_eqT (fun c hc => by rw [List.mem_singleton.mp hc]; unfold Dgt at hx; omega) (fun c hc => by rw [List.mem_singleton.mp hc]; decide) S
      by_cases h2 : [x] = [48]
      · by_cases h3 : l = [48]
        · have ok : okW l := ⟨h0, h1, fun _ => h3⟩
          have hlen := okW_len h ok
          obtain ⟨i, e5, e6⟩ := okW_some ok (by omega)
          have it : intT [.str (tx l)] S = .ok (.int i) S := by
            unfold intT
            simp only [e6]
            rw [if_pos (by rw [tx_len]; omega)]
          rw [e5]
          simp only [goS, q2, decide_eq_false h0, lc, al, decide_eq_true h1, Bool.not_true, Bool.not_false, if_true, my, Bool.false_eq_true, if_false, i0, e3, decide_eq_true h2, e4, decide_eq_true h3, it]
          exact fin_same rfl
        · have np : wholeP l = none := by
            unfold wholeP
            rw [if_neg fun z => h3 (z.2.2 (by rw [ex, (List.cons.inj h2).1]; rfl))]
          rw [np]
          simp only [goS, q2, decide_eq_false h0, lc, al, decide_eq_true h1, Bool.not_true, Bool.not_false, if_true, my, Bool.false_eq_true, if_false, i0, e3, decide_eq_true h2, e4, decide_eq_false h3, mn, bind_exc, stm_exc, seq_exc]
          exact exc_same
      · have ok : okW l := ⟨h0, h1, fun z => by
          rw [ex] at z
          exact absurd (by rw [Option.some.inj z]) h2⟩
        have hlen := okW_len h ok
        obtain ⟨i, e5, e6⟩ := okW_some ok (by omega)
        have it : intT [.str (tx l)] S = .ok (.int i) S := by
          unfold intT
          simp only [e6]
          rw [if_pos (by rw [tx_len]; omega)]
        rw [e5]
        simp only [goS, q2, decide_eq_false h0, lc, al, decide_eq_true h1, Bool.not_true, Bool.not_false, if_true, my, i0, e3, decide_eq_false h2, it]
        exact fin_same rfl
    · have np : wholeP l = none := by unfold wholeP; rw [if_neg fun z => h1 z.2.1]
      rw [np]
      simp only [goS, q2, decide_eq_false h0, Bool.not_false, if_true, lc, al, decide_eq_false h1, mn, bind_exc, stm_exc, seq_exc]
      exact exc_same
noncomputable def pairQ (ws : List (List Nat)) : Option (Int × Int) := match ws with
  | [a, b] => (match wholeP a, wholeP b with
    | some i, some j => some (i, j)
    | _, _ => none)
  | _ => none
theorem pairQ_two (a b : List Nat) : pairQ [a, b] = (match wholeP a, wholeP b with
    | some i, some j => some (i, j)
    | _, _ => none) := rfl
theorem pairQ_no {ws : List (List Nat)} (h : ws.length ≠ 2) : pairQ ws = none := by
  match ws, h with
  | [], _ => rfl
  | [_], _ => rfl
  | [_, _], h => exact absurd rfl h
  | _ :: _ :: _ :: _, _ => rfl
noncomputable def pairP (c : Nat) (l : List Nat) : Option (Int × Int) := pairQ (splW [c] l)
noncomputable def oP : Option (Int × Int) → D
  | none => .non
  | some p => rowD p
theorem pair_law (S : Sto) {n k : Nat} {l : List Nat} (h : Tx n k l) (hn : n < 900000) (hk : k < 600) (c : Nat) : F_law_pair_in [.str (tx l), .str (tx [c])] S = .ok (oP (pairP c l)) S := by
  have hl := h.len
  obtain ⟨_, s2, s3, _⟩ := spl_facts [c] l
  have sp := spl_any (f := eVar 0) (g := eVar 1) (e := [some (.str (tx l)), some (.str (tx [c])), none, none]) S [c] l (by simp) (by omega) rfl rfl
  have wt : ∀ w ∈ splW [c] l, Tx n k w := fun w hw => spl_tx h hw
  unfold pairP
  generalize splW [c] l = ws at *
  have lc : nLc [3] (.nm 3) (iS (eAno (nSplit (eVar 0) (eVar 1)))) tYesD (eFn F_law_whole_in [(eVar 3)]) [some (.str (tx l)), some (.str (tx [c])), none, none] S = .ok (.lst ((ws.map wholeP).map oI)) S := by
    refine nLcS_lst (xs := ws.map fun w => D.str (tx w)) ?_ (by rw [List.length_map]; omega) ?_
    · have : eAno (nSplit (eVar 0) (eVar 1)) [some (.str (tx l)), some (.str (tx [c])), none, none] S = (nSplit (eVar 0) (eVar 1) [some (.str (tx l)), some (.str (tx [c])), none, none] S).bind anoD := ap_Ano
      rw [this, sp]
      rfl
    · rw [List.map_map]
      exact lc_all (fun w => D.str (tx w)) (oI ∘ wholeP) ws fun w hw => ⟨[some (.str (tx l)), some (.str (tx [c])), none, some (.str (tx w))], rfl, by simp only [goS, whole_law S (wt w hw) (by omega) hk, Function.comp]⟩
  have inn := inL_rp rpOI (by decide) none (ws.map wholeP) false S
  have ln : lenD [.lst ((ws.map wholeP).map oI)] S = .ok (.int (ws.length : Nat)) S := by rw [lenD_lst, List.length_map, List.length_map]
  have inT : (none : Option Int) ∈ ws.map wholeP → inD false .non (.lst ((ws.map wholeP).map oI)) S = .ok (.bl true) S := fun h => by
    have e := inn
    rw [if_neg Bool.false_ne_true] at e
    exact e.trans (by simp only [h, decide_true])
  have inF : ¬ (none : Option Int) ∈ ws.map wholeP → inD false .non (.lst ((ws.map wholeP).map oI)) S = .ok (.bl false) S := fun h => by
    have e := inn
    rw [if_neg Bool.false_ne_true] at e
    exact e.trans (by simp only [h, decide_false])
  by_cases h2 : ws.length = 2
  · obtain ⟨a, b, rfl⟩ : ∃ a b, ws = [a, b] := by
      match ws, h2 with
      | [a, b], _ => exact ⟨a, b, rfl⟩
    rw [pairQ_two]
    have e2 : eqD true (.int (([a, b] : List (List Nat)).length : Nat)) (.int 2) S = .ok (.bl false) S := by rw [neD_int]; rfl
    have tu : tupD [.lst (([a, b].map wholeP).map oI)] S = .ok (.tup [oI (wholeP a), oI (wholeP b)]) S := rfl
    cases ha : wholeP a with
    | none =>
      have hi : (none : Option Int) ∈ [a, b].map wholeP := by simp [ha]
      simp only [F_law_pair_in, runD, b_law_pair_in, go0, goS, lc, ln, e2, Bool.false_eq_true, if_false, inT hi, if_true]
      exact fin_same rfl
    | some i =>
      cases hb : wholeP b with
      | none =>
        have hi : (none : Option Int) ∈ [a, b].map wholeP := by simp [hb]
        simp only [F_law_pair_in, runD, b_law_pair_in, go0, goS, lc, ln, e2, Bool.false_eq_true, if_false, inT hi, if_true]
        exact fin_same rfl
      | some j =>
        have hi : ¬ (none : Option Int) ∈ [a, b].map wholeP := by simp [ha, hb]
        rw [ha, hb] at tu
        simp only [F_law_pair_in, runD, b_law_pair_in, go0, goS, lc, ln, e2, Bool.false_eq_true, if_false, inF hi]
        simp only [List.map_cons, List.map_nil, ha, hb] at tu ⊢
        simp only [goS, tu]
        exact fin_same rfl
  · have e2 : eqD true (.int (ws.length : Nat)) (.int 2) S = .ok (.bl true) S := by
      rw [neD_int, decide_eq_false (by omega)]
      rfl
    rw [pairQ_no h2]
    simp only [F_law_pair_in, runD, b_law_pair_in, go0, goS, lc, ln, e2, if_true]
    exact fin_same rfl
theorem pair_any (S : Sto) {n k : Nat} {l : List Nat} (h : Tx n k l) (hn : n < 900000) (hk : k < 600) (c : Nat) : Fpair_in [.str (tx l), .str (tx [c])] S = match pairP c l with
    | some p => .ok (rowD p) S
    | none => .exc "NoText" S := by
  have hl := h.len
  have sp := spl_any (f := eVar 0) (g := eVar 1) (e := [some (.str (tx l)), some (.str (tx [c])), none]) S [c] l (by simp) (by omega) rfl rfl
  have wt : ∀ w ∈ splW [c] l, Tx n k w := fun w hw => spl_tx h hw
  unfold pairP
  generalize splW [c] l = ws at *
  have my := must_ok S
  have mn := must_no S
  have ln : lenD [.lst (ws.map fun w => D.str (tx w))] S = .ok (.int (ws.length : Nat)) S := by rw [lenD_lst, List.length_map]
  by_cases h2 : ws.length = 2
  · obtain ⟨a, b, rfl⟩ : ∃ a b, ws = [a, b] := by
      match ws, h2 with
      | [a, b], _ => exact ⟨a, b, rfl⟩
    rw [pairQ_two]
    have e2 : eqD false (.int (([a, b] : List (List Nat)).length : Nat)) (.int 2) S = .ok (.bl true) S := by rw [eqD_int]; rfl
    have x0 : ixD (.lst ([a, b].map fun w => D.str (tx w))) (.int 0) S = .ok (.str (tx a)) S := rfl
    have x1 : ixD (.lst ([a, b].map fun w => D.str (tx w))) (.int 1) S = .ok (.str (tx b)) S := rfl
    have wa := whole_any S (wt a (by simp)) (by omega) hk
    have wb := whole_any S (wt b (by simp)) (by omega) hk
    cases ha : wholeP a with
    | none =>
      rw [ha] at wa
      simp only at wa
      simp only [Fpair_in, runD, bpair_in, go0, goS, sp, ln, e2, my, x0, x1, wa, bind_exc, stm_exc, seq_exc]
      exact exc_same
    | some i =>
      rw [ha] at wa
      simp only at wa
      cases hb : wholeP b with
      | none =>
        rw [hb] at wb
        simp only at wb
        simp only [Fpair_in, runD, bpair_in, go0, goS, sp, ln, e2, my, x0, x1, wa, wb, bind_exc, stm_exc, seq_exc]
        exact exc_same
      | some j =>
        rw [hb] at wb
        simp only at wb
        simp only [Fpair_in, runD, bpair_in, go0, goS, sp, ln, e2, my, x0, x1, wa, wb]
        exact fin_same rfl
  · have e2 : eqD false (.int (ws.length : Nat)) (.int 2) S = .ok (.bl false) S := by
      rw [eqD_int, decide_eq_false (by omega)]
    rw [pairQ_no h2]
    simp only [Fpair_in, runD, bpair_in, go0, goS, sp, ln, e2, mn, bind_exc, stm_exc, seq_exc]
    exact exc_same
noncomputable def Pg (S : Sto) (k : Nat) (c m p : Int) : Sto := S.set k (.lst [.int c, .int m, .int p])
section
variable {S : Sto} {k j : Nat} {c m p c' m' p' : Int}
theorem Pg_len : (Pg S k c m p).length = S.length := by simp [Pg]
theorem Pg_at (h : k < S.length) : (Pg S k c m p)[k]? = some (.lst [.int c, .int m, .int p]) := by simp [Pg, h]
theorem Pg_set : (Pg S k c m p).set k (.lst [.int c', .int m', .int p']) = Pg S k c' m' p' := by simp [Pg]
theorem Pg_app (h : k < S.length) {T : Sto} : Pg S k c m p ++ T = Pg (S ++ T) k c m p := by simp [Pg, List.set_append, h]
theorem Pg_last {o : DO} (h : k < S.length) : (Pg (S ++ [o]) k c m p)[S.length]? = some o := by
  unfold Pg
  rw [List.getElem?_set_ne (by omega), last_at]
theorem Pg_setl {o q : DO} (h : k < S.length) : (Pg (S ++ [o]) k c m p).set S.length q = Pg (S ++ [q]) k c m p := by
  unfold Pg
  rw [List.set_comm _ _ (by omega), set_last]
theorem Pg_of (h : S[k]? = some (.lst [.int c, .int m, .int p])) : Pg S k c m p = S := by
  unfold Pg
  apply List.ext_getElem?
  intro i
  by_cases hi : k = i
  · subst hi
    rw [List.getElem?_set_self (List.getElem?_eq_some_iff.mp h).1, h]
  · rw [List.getElem?_set_ne hi]
theorem Pg_clo (h : k < S.length) {T : Sto} : Clo (Pg S k c m p) (Pg S k c' m' p' ++ T) := by
  have := Clo.set (S := Pg S k c m p) (T := T) (k := k) (o := .lst [.int c', .int m', .int p']) (by simp)
  rw [Pg_set] at this
  exact this
theorem fin_pg {d : D} {T : Sto} (h : k < S.length) (hd : d.gnd = true) : fin .frz (Pg S k c m p) d (Pg S k c' m' p' ++ T) = .ok d (Pg S k c' m' p') := by
  rw [fin_frz (Pg_clo h) hd]
  have : (Pg S k c m p).length = (Pg S k c' m' p').length := by simp [Pg_len]
  rw [this, List.take_left]
theorem fin_pg0 {d : D} (h : k < S.length) (hd : d.gnd = true) : fin .frz (Pg S k c m p) d (Pg S k c' m' p') = .ok d (Pg S k c' m' p') := by
  have := fin_pg (c := c) (m := m) (p := p) (c' := c') (m' := m') (p' := p') (T := []) h hd
  simpa using this
end
theorem fin_newP {S : Sto} {o : DO} (h : o.bel S.length = true) : fin .new S (.ref S.length) (S ++ [o]) = .ok (.ref S.length) (S ++ [o]) := by
  simp only [fin]
  rw [if_pos ⟨Clo.app, Nat.le_refl _⟩, last_at]
  simp only
  rw [if_pos h, List.take_left]
theorem absD_int (i : Int) (S : Sto) : absD [.int i] S = .ok (.int (i.natAbs : Nat)) S := by
  show Res.ok _ S = _
  congr 2
  split <;> omega
theorem fls_at {ns : List Int} {k : Nat} {S : Sto} (h : k < ns.length) : ixD (.fls (ns.map D.int)) (.int (k : Nat)) S = .ok (.int ns[k]) S := by
  rw [ixD_fls, atI_cast]
  simp [h]
theorem purse_turn (ns : List Int) (k n : Nat) (hn : n < ns.length) (hn2 : n < 40) (cell N : Int) (hN : 0 ≤ N ∧ N < 2147483648) (S : Sto) : ∃ M : Int, 0 ≤ M ∧ M < 2147483648 ∧ turn [4] (.nm 4) b_law_purse_1 (.int (n : Nat)) [some (.fls (ns.map D.int)), some (.int (k : Nat)), some (.int cell), some (.int N), none] S = .next [some (.fls (ns.map D.int)), some (.int (k : Nat)), some (.int cell), some (.int M), none] S := by
  have pw : PowOk N 3 := .of (b := 31) (by omega) (by decide) (by decide)
  have m1 : modD (.int ns[n]) (.int 1000000007) S = .ok (.int (ns[n] % 1000000007)) S := modD_pos (by decide)
  have m2 : modD (.int (N ^ Int.toNat 3 + ns[n] % 1000000007 + (n : Nat))) (.int 2147483629) S = .ok (.int ((N ^ Int.toNat 3 + ns[n] % 1000000007 + (n : Nat)) % 2147483629)) S := modD_pos (by decide)
  refine ⟨(N ^ Int.toNat 3 + ns[n] % 1000000007 + (n : Nat)) % 2147483629, Int.emod_nonneg _ (by decide), Int.lt_trans (Int.emod_lt_of_pos _ (by decide)) (by decide), ?_⟩
  simp only [turn, b_law_purse_1, goS, powD_ok pw, fls_at hn, m1, addD_int, m2]
theorem purse (ns : List Int) (k : Nat) (hk : k < 1000) (S : Sto) : ∃ c m p : Int, 0 ≤ c ∧ 0 ≤ p ∧ p < 11 ∧ F_law_purse [.fls (ns.map D.int), .int (k : Nat)] S = .ok (.ref S.length) (S ++ [.lst [.int c, .int m, .int p]]) := by
  have hcell : ∃ cell : Int, 0 ≤ cell ∧ (sIf (eTB (e2 ltD (eVar 1) (eCall lenD [(eVar 0)]))) (sSet 2 (eCall absD [(e2 ixD (eVar 0) (eVar 1))])) sNext) [some (.fls (ns.map D.int)), some (.int (k : Nat)), some (.int 0), none, none] S = .next [some (.fls (ns.map D.int)), some (.int (k : Nat)), some (.int cell), none, none] S := by
    by_cases h : k < ns.length
    · refine ⟨(ns[k].natAbs : Nat), Int.natCast_nonneg _, ?_⟩
      have : (k : Int) < ((ns.map D.int).length : Nat) := by simpa using h
      simp only [goS, lenD_fls, ltD_i, this, decide_true, fls_at h, absD_int]
    · refine ⟨0, Int.le_refl _, ?_⟩
      have : ¬ (k : Int) < ((ns.map D.int).length : Nat) := by simpa using h
      simp only [goS, lenD_fls, ltD_i, this, decide_false]
  obtain ⟨cell, hc0, hcell⟩ := hcell
  have hmin : ∃ n : Nat, n ≤ ns.length ∧ n ≤ 40 ∧ minI ((ns.map D.int).length : Nat) 40 = (n : Nat) := by
    unfold minI
    rw [List.length_map]
    split
    · exact ⟨40, by omega, by omega, rfl⟩
    · exact ⟨ns.length, by omega, by omega, rfl⟩
  obtain ⟨n, hn1, hn2, hn⟩ := hmin
  obtain ⟨e', S', q, hI⟩ := for_inv0 (dead := [4]) (tg := .nm 4) (body := b_law_purse_1) (ys := rngD 0 n) (xs := rngD 0 n) (S := S) (e := [some (.fls (ns.map D.int)), some (.int (k : Nat)), some (.int cell), some (.int (7919 + 31 * (k : Nat))), none])
    (fun i e S' => S' = S ∧ ∃ N : Int, (0 ≤ N ∧ N < 2147483648) ∧ e = [some (.fls (ns.map D.int)), some (.int (k : Nat)), some (.int cell), some (.int N), none]) ⟨rfl, _, by omega, rfl⟩ (fun i e S' x hx ⟨eS, N, hN, ee⟩ => by
      subst eS ee
      obtain ⟨ex, hlt⟩ := rngD_get hx
      subst ex
      rw [Int.zero_add]
      obtain ⟨M, h1, h2, q⟩ := purse_turn ns k i (by omega) (by omega) cell N hN S'
      exact ⟨_, _, q, rfl, M, ⟨h1, h2⟩, rfl⟩)
  obtain ⟨eS, N, hN, rfl⟩ := hI
  subst eS
  have k1 : FitMul 31 (k : Nat) := .left (by decide) (by decide)
  have mm : ii2D minI [.int ((ns.map D.int).length : Nat), .int 40] S' = .ok (.int (n : Nat)) S' := by
    show Res.ok (D.int (minI _ _)) S' = _
    rw [hn]
  have md : modD (.int (k : Nat)) (.int 11) S' = .ok (.int ((k : Nat) % 11)) S' := modD_pos (by decide)
  have fr : sFor [4] (.nm 4) (iR1 (eCall (ii2D minI) [(eCall lenD [(eVar 0)]), (eC (.int 40))])) b_law_purse_1 [some (.fls (ns.map D.int)), some (.int (k : Nat)), some (.int cell), some (.int (7919 + 31 * (k : Nat))), none] S' = .next [some (.fls (ns.map D.int)), some (.int (k : Nat)), some (.int cell), some (.int N), none] S' := by
    rw [forR1 (n := n) (by simp only [goS, lenD_fls, mm]) (by omega), q]
  by_cases hc : cell < 1000000000000000000
  · refine ⟨0, N, (k : Nat) % 11, by decide, Int.emod_nonneg _ (by decide), Int.emod_lt_of_pos _ (by decide), ?_⟩
    simp only [F_law_purse, runD, b_law_purse, go0, ap_Seq, ap_Set, ap_C, Res.stm_ok, SRes.seq_next, list_set0, list_setS, rep_0, rep_S, hcell]
    simp only [goS, mulD_ok k1, addD_int, fr, p10_18, ltD_i, hc, decide_true, subD_i, md]
    exact fin_newP rfl
  · refine ⟨cell - 1000000000000000000, N, (k : Nat) % 11, by omega, Int.emod_nonneg _ (by decide), Int.emod_lt_of_pos _ (by decide), ?_⟩
    simp only [F_law_purse, runD, b_law_purse, go0, ap_Seq, ap_Set, ap_C, Res.stm_ok, SRes.seq_next, list_set0, list_setS, rep_0, rep_S, hcell]
    simp only [goS, mulD_ok k1, addD_int, fr, p10_18, ltD_i, hc, decide_false, subD_i, md]
    exact fin_newP rfl
noncomputable def prms : List Int := [99991, 99989, 99971, 99961, 99929, 99923, 99907, 99901, 99881, 99877, 99871]
theorem prms_at {p : Int} (h0 : 0 ≤ p) (h1 : p < 11) : ∃ q : Int, 0 < q ∧ atI (prms.map D.int) p = some (.int q) := by
  obtain ⟨n, rfl⟩ := Int.eq_ofNat_of_zero_le h0
  have hn : n < prms.length := by show n < 11; omega
  refine ⟨prms[n], ?_, by rw [atI_cast]; simp [hn]⟩
  have : ∀ q ∈ prms, 0 < q := by decide
  exact this _ (List.getElem_mem hn)
theorem draw_turn {S : Sto} {k : Nat} (h : k < S.length) (many : Int) (x2 : Option D) (f r c m p : Int) : ∃ f' m' p' : Int, 0 ≤ p' ∧ p' < 11 ∧ b_law_draw_1 [some (.ref k), some (.int many), x2, some (.tup (prms.map D.int)), some (.int f), some (.int r)] (Pg S k c m p) = .next [some (.ref k), some (.int many), x2, some (.tup (prms.map D.int)), some (.int f'), some (.int (r * 99000))] (Pg S k c m' p') := by
  have m1 : FitMul m 48271 := .right (by decide) (by decide)
  have m2 : FitMul f 99000 := .right (by decide) (by decide)
  have m3 : FitMul r 99000 := .right (by decide) (by decide)
  generalize hm : (m * 48271 + 12345) % 2147483629 = m'
  have hb : 0 ≤ m' ∧ m' < 2147483629 := by
    subst hm
    exact ⟨Int.emod_nonneg _ (by decide), Int.emod_lt_of_pos _ (by decide)⟩
  generalize hp : (p + 1) % 11 = p'
  have hpb : 0 ≤ p' ∧ p' < 11 := by
    subst hp
    exact ⟨Int.emod_nonneg _ (by decide), Int.emod_lt_of_pos _ (by decide)⟩
  obtain ⟨q, hq0, hq⟩ := prms_at hpb.1 hpb.2
  have pw : PowOk m' 5 := .of (b := 31) (by omega) (by decide) (by decide)
  have d1 : modD (.int (m * 48271 + 12345)) (.int 2147483629) (Pg S k c m p) = .ok (.int m') (Pg S k c m p) := by rw [modD_pos (by decide), hm]
  have st : stD (.ref k) (.int 1) (.int m') (Pg S k c m p) = some (Pg S k c m' p) := by
    rw [stD_lst (Pg_at h) (show ixN [D.int c, D.int m, D.int p].length 1 = some 1 from rfl)]
    simp only [List.set, Pg_set]
  have d2 : modD (.int (p + 1)) (.int 11) (Pg S k c m' p) = .ok (.int p') (Pg S k c m' p) := by rw [modD_pos (by decide), hp]
  have st2 : stD (.ref k) (.int 2) (.int p') (Pg S k c m' p) = some (Pg S k c m' p') := by
    rw [stD_lst (Pg_at h) (show ixN [D.int c, D.int m', D.int p].length 2 = some 2 from rfl)]
    simp only [List.set, Pg_set]
  have d3 : modD (.int (m' ^ Int.toNat 5)) (.int q) (Pg S k c m' p') = .ok (.int (m' ^ Int.toNat 5 % q)) (Pg S k c m' p') := modD_pos hq0
  refine ⟨f * 99000 + m' ^ Int.toNat 5 % q, m', p', hpb.1, hpb.2, ?_⟩
  simp only [b_law_draw_1, goS, ixD_ref (Pg_at h), atI_1, atI_2, List.getElem?_cons_succ, List.getElem?_cons_zero, mulD_ok m1, addD_int, d1, st, d2, st2, mulD_ok m2, powD_ok pw, ixD_tup, hq, d3, mulD_ok m3]
theorem draw_loop {S : Sto} {k : Nat} (h : k < S.length) (many : Int) (x2 : Option D) (c : Int) (hf : FitMul many 100) : ∀ (n : Nat) (f r m p : Int), 0 ≤ p → p < 11 → 0 < r → many * 100 ≤ r * 99000 ^ n → ∃ f' r' m' p' : Int, 0 ≤ p' ∧ p' < 11 ∧ whileN [] (eTB (e2 ltD (eVar 5) (e2 mulD (eVar 1) (eC (.int 100))))) b_law_draw_1 (n + 1) [some (.ref k), some (.int many), x2, some (.tup (prms.map D.int)), some (.int f), some (.int r)] (Pg S k c m p) = .next [some (.ref k), some (.int many), x2, some (.tup (prms.map D.int)), some (.int f'), some (.int r')] (Pg S k c m' p')
  | n, f, r, m, p, p0, p1, h0, hm => by
    by_cases hr : r < many * 100
    · cases n with
      | zero => omega
      | succ n =>
        obtain ⟨f1, m1, p2, g0, g1, q1⟩ := draw_turn h many x2 f r c m p
        obtain ⟨f2, r2, m2, p3, g2, g3, q2⟩ := draw_loop h many x2 c hf n f1 (r * 99000) m1 p2 g0 g1 (by omega) (by rw [Int.mul_assoc, ← Int.pow_succ']; exact hm)
        refine ⟨f2, r2, m2, p3, g2, g3, ?_⟩
        unfold whileN
        simp only [goS, mulD_ok hf, goI, hr, decide_true, q1]
        exact q2
    · refine ⟨f, r, m, p, p0, p1, ?_⟩
      unfold whileN
      simp only [goS, mulD_ok hf, goI, hr, decide_false]
theorem pow_big2 (many : Int) : ∃ n : Nat, many ≤ 1 * 99000 ^ n := by
  refine ⟨many.toNat, ?_⟩
  have h : ∀ n : Nat, (n : Int) ≤ 99000 ^ n := by
    intro n
    induction n with
    | zero => decide
    | succ n ih =>
      rw [Int.pow_succ]
      have : (1 : Int) ≤ 99000 ^ n := by
        have h0 : (0 : Int) < 99000 ^ n := Int.pow_pos (by decide)
        omega
      omega
  have := h many.toNat
  omega
theorem draw {S : Sto} {k : Nat} {c m p many : Int} (h : k < S.length) (hc : 0 ≤ c) (hp0 : 0 ≤ p) (hp1 : p < 11) (hm : 0 < many) (hl : many.natAbs.log2 < 9000) : ∃ d c' m' p' : Int, 0 ≤ d ∧ d < many ∧ 0 ≤ c' ∧ 0 ≤ p' ∧ p' < 11 ∧ F_law_draw [.ref k, .int many] (Pg S k c m p) = .ok (.int d) (Pg S k c' m' p') := by
  have hf : FitMul many 100 := .right (by decide) (by decide)
  by_cases h0 : 0 < c
  · have d1 : modD (.int c) (.int many) (Pg S k c m p) = .ok (.int (c % many)) (Pg S k c m p) := modD_pos hm
    have d2 : fdivD (.int c) (.int many) (Pg S k c m p) = .ok (.int (c / many)) (Pg S k c m p) := fdivD_pos hm hl
    have st : stD (.ref k) (.int 0) (.int (c / many)) (Pg S k c m p) = some (Pg S k (c / many) m p) := by
      rw [stD_lst (Pg_at h) (show ixN [D.int c, D.int m, D.int p].length 0 = some 0 from rfl)]
      simp only [List.set, Pg_set]
    refine ⟨c % many, c / many, m, p, Int.emod_nonneg _ (by omega), Int.emod_lt_of_pos _ hm, Int.ediv_nonneg hc (by omega), hp0, hp1, ?_⟩
    simp only [F_law_draw, runD, b_law_draw, go0, goS, goI, ixD_ref (Pg_at h), atI_0, List.getElem?_cons_zero, h0, decide_true, d1, d2, st]
    exact fin_pg0 h rfl
  · obtain ⟨n, hn⟩ := pow_big2 (many * 100)
    obtain ⟨f', r', m', p', g0, g1, q⟩ := draw_loop h many none c hf n 0 1 m p hp0 hp1 (by decide) hn
    have q' := whileD_eq q (by simp)
    simp only [prms, List.map_cons, List.map_nil] at q'
    have d1 : modD (.int f') (.int many) (Pg S k c m' p') = .ok (.int (f' % many)) (Pg S k c m' p') := modD_pos hm
    refine ⟨f' % many, c, m', p', Int.emod_nonneg _ (by omega), Int.emod_lt_of_pos _ hm, hc, g0, g1, ?_⟩
    simp only [F_law_draw, runD, b_law_draw, go0, goS, goI, ixD_ref (Pg_at h), atI_0, List.getElem?_cons_zero, h0, decide_false, q', d1]
    exact fin_pg0 h rfl
/-- a store with the purse at k -/
structure Pu' (S : Sto) (k : Nat) (T : Sto) : Prop where
  ex : ∃ c m p : Int, 0 ≤ c ∧ 0 ≤ p ∧ p < 11 ∧ T = Pg S k c m p
theorem drawN {S T : Sto} {k : Nat} {many : Nat} (h : k < S.length) (hT : Pu' S k T) (hm : 0 < many) (hl : many < 9000) : ∃ (d : Nat) (T' : Sto), d < many ∧ Pu' S k T' ∧ F_law_draw [.ref k, .int (many : Nat)] T = .ok (.int (d : Nat)) T' := by
  obtain ⟨c, m, p, h1, h2, h3, rfl⟩ := hT.ex
  obtain ⟨d, c', m', p', g1, g2, g3, g4, g5, q⟩ := draw (many := many) (c := c) (m := m) (p := p) h h1 h2 h3 (by omega) (by
    have : (many : Int).natAbs.log2 ≤ (many : Int).natAbs := Nat.log2_le_self _
    omega)
  obtain ⟨n, rfl⟩ := Int.eq_ofNat_of_zero_le g1
  exact ⟨n, _, by omega, ⟨⟨c', m', p', g3, g4, g5, rfl⟩⟩, q⟩
theorem drawI {S T : Sto} {k : Nat} {many : Int} (h : k < S.length) (hT : Pu' S k T) (hm : 0 < many) (hl : many.natAbs.log2 < 9000) : ∃ (d : Int) (T' : Sto), 0 ≤ d ∧ d < many ∧ Pu' S k T' ∧ F_law_draw [.ref k, .int many] T = .ok (.int d) T' := by
  obtain ⟨c, m, p, h1, h2, h3, rfl⟩ := hT.ex
  obtain ⟨d, c', m', p', g1, g2, g3, g4, g5, q⟩ := draw (many := many) (c := c) (m := m) (p := p) h h1 h2 h3 hm hl
  exact ⟨d, _, g1, g2, ⟨⟨c', m', p', g3, g4, g5, rfl⟩⟩, q⟩
theorem fin_pu {S T T' : Sto} {k : Nat} {d : D} (h : k < S.length) (h1 : Pu' S k T) (h2 : Pu' S k T') (hd : d.gnd = true) (U : Sto) : fin .frz T d (T' ++ U) = .ok d T' := by
  obtain ⟨c, m, p, _, _, _, rfl⟩ := h1.ex
  obtain ⟨c', m', p', _, _, _, rfl⟩ := h2.ex
  exact fin_pg h hd
theorem fin_pu0 {S T T' : Sto} {k : Nat} {d : D} (h : k < S.length) (h1 : Pu' S k T) (h2 : Pu' S k T') (hd : d.gnd = true) : fin .frz T d T' = .ok d T' := by
  have := fin_pu h h1 h2 hd []
  simpa using this
structure Ly (n : Nat) (d : D) : Prop where
  lay : d.py.canLay0 = true
  dep : d.py.depth ≤ n
  flat : ∀ S, pyOf S d = d.py
theorem Ly.int (i : Int) (n : Nat) : Ly n (.int i) := ⟨rfl, Nat.zero_le _, fun _ => rfl⟩
theorem Ly.bl (i : Bool) (n : Nat) : Ly n (.bl i) := ⟨rfl, Nat.zero_le _, fun _ => rfl⟩
theorem Ly.non (n : Nat) : Ly n .non := ⟨rfl, Nat.zero_le _, fun _ => rfl⟩
theorem Ly.str {x : Str} (h : (PyData.str x).canLay0 = true) (n : Nat) : Ly n (.str x) := ⟨h, Nat.zero_le _, fun _ => rfl⟩
theorem ly_all {n : Nat} : ∀ xs : List D, (∀ x ∈ xs, Ly n x) → PyData.canLayAll0 (pys xs) = true ∧ PyData.depthAll (pys xs) ≤ n
  | [], _ => ⟨rfl, Nat.zero_le _⟩
  | x :: xs, h => by
    have h1 := h x List.mem_cons_self
    obtain ⟨h2, h3⟩ := ly_all xs fun y hy => h y (List.mem_cons_of_mem _ hy)
    have h4 := h1.dep
    refine ⟨by simp [pys, PyData.canLayAll0, h1.lay, h2], ?_⟩
    simp only [pys, PyData.depthAll]
    omega
theorem Ly.tup {n : Nat} {xs : List D} (h : ∀ x ∈ xs, Ly n x) : Ly (n + 1) (.tup xs) := by
  obtain ⟨h1, h2⟩ := ly_all xs h
  refine ⟨by simp only [D.py, PyData.canLay0]; exact h1, ?_, fun _ => rfl⟩
  simp only [D.py, PyData.depth]
  omega
theorem Ly.lst {n : Nat} {xs : List D} (h : ∀ x ∈ xs, Ly n x) : Ly (n + 1) (.lst xs) := by
  obtain ⟨h1, h2⟩ := ly_all xs h
  refine ⟨by simp only [D.py, PyData.canLay0]; exact h1, ?_, fun _ => rfl⟩
  simp only [D.py, PyData.depth]
  omega
theorem Ly.shp {n : Nat} {d : D} (h : Ly n d) (hn : n ≤ 64) (S : Sto) : Pu.shp S d = true := by
  have := h.dep
  unfold Pu.shp SeqAt.shaped
  rw [h.flat, h.lay]
  simp
  omega
theorem Ly.up {n m : Nat} {d : D} (h : Ly n d) (hn : n ≤ m) : Ly m d := ⟨h.lay, Nat.le_trans h.dep hn, h.flat⟩
theorem p31 {S : Sto} : powD (.int 31) (.int 26) S = .ok (.int 596216567187872108348956733961803993281) S := powD_ok (by decide)
noncomputable def kd : D → Bool
  | .int _ => true
  | .bl _ => true
  | .str _ => true
  | .non => true
  | .tup _ => true
  | .lst _ => true
  | _ => false
noncomputable def whB : D → Bool
  | .int _ => true
  | _ => false
noncomputable def strB : D → Bool
  | .int a => if 0 ≤ a then decide (a < 31) else false
  | _ => false
noncomputable def hsB : D → Bool
  | .int a => if 1 ≤ a then decide (a < 596216567187872108348956733961803993281) else false
  | _ => false
noncomputable def stp : List Int := [1, 2, -1, -2]
noncomputable def rchI (b c s : Int) : Bool := if s = 1 then decide (b ≤ c) else if s = 2 then decide (b ≤ c ∧ (c - b) % 2 = 0) else if s = -1 then decide (c ≤ b) else decide (c ≤ b ∧ (c - b) % 2 = 0)
noncomputable def runB : D → Bool
  | .tup [x0, x1, x2, x3] => strB x0 && (hsB x1 && (hsB x2 && (match x1, x2, x3 with
    | .int b, .int c, .int s => decide (s ∈ stp) && rchI b c s
    | _, _, _ => false)))
  | _ => false
theorem whole_is (d : D) (h : kd d = true) (S : Sto) : Fis_whole [d] S = .ok (.bl (whB d)) S := by
  cases d <;> first | (cases h; done) | (simp only [Fis_whole, runD, bis_whole, go0, goS, goT, Bool.not_false, Bool.not_true, whB]; exact fin_same rfl)
theorem street_is (d : D) (h : kd d = true) (S : Sto) : Fis_street [d] S = .ok (.bl (strB d)) S := by
  have w := whole_is d h S
  cases d with
  | int a =>
    simp only [whB] at w
    by_cases h0 : 0 ≤ a
    · simp only [Fis_street, runD, bis_street, go0, goS, w, leD_i, ltD_i, h0, decide_true, strB, if_true]
      exact fin_same rfl
    · simp only [Fis_street, runD, bis_street, go0, goS, w, leD_i, ltD_i, h0, decide_false, strB, if_false]
      exact fin_same rfl
  | _ => first | (cases h; done) | (simp only [Fis_street, runD, bis_street, go0, goS, w, whB, strB]; exact fin_same rfl)
theorem house_is (d : D) (h : kd d = true) (S : Sto) : Fis_house [d] S = .ok (.bl (hsB d)) S := by
  have w := whole_is d h S
  cases d with
  | int a =>
    simp only [whB] at w
    have e : decide (a ≤ 596216567187872108348956733961803993280) = decide (a < 596216567187872108348956733961803993281) := by
      rw [decide_eq_decide]
      omega
    by_cases h0 : 1 ≤ a
    · simp only [Fis_house, runD, bis_house, go0, goS, w, leD_i, ltD_i, h0, decide_true, hsB, if_true, e]
      exact fin_same rfl
    · simp only [Fis_house, runD, bis_house, go0, goS, w, leD_i, ltD_i, h0, decide_false, hsB, if_false]
      exact fin_same rfl
  | _ => first | (cases h; done) | (simp only [Fis_house, runD, bis_house, go0, goS, w, whB, hsB]; exact fin_same rfl)
theorem lawwhole_is (d : D) (h : kd d = true) (S : Sto) : F_law_is_whole [d] S = .ok (.bl (whB d)) S := by
  cases d <;> first | (cases h; done) | (simp only [F_law_is_whole, runD, b_law_is_whole, go0, goS, goT, Bool.not_false, Bool.not_true, whB]; exact fin_same rfl)
theorem lawhouse_is (d : D) (h : kd d = true) (S : Sto) : F_law_is_house [d] S = .ok (.bl (hsB d)) S := by
  have w := lawwhole_is d h S
  cases d with
  | int a =>
    simp only [whB] at w
    by_cases h0 : 1 ≤ a
    · simp only [F_law_is_house, runD, b_law_is_house, go0, goS, w, leD_i, ltD_i, h0, decide_true, hsB, if_true, p31]
      exact fin_same rfl
    · simp only [F_law_is_house, runD, b_law_is_house, go0, goS, w, leD_i, ltD_i, h0, decide_false, hsB, if_false]
      exact fin_same rfl
  | _ => first | (cases h; done) | (simp only [F_law_is_house, runD, b_law_is_house, go0, goS, w, whB, hsB]; exact fin_same rfl)
theorem modD_ok {i j : Int} {S : Sto} (h : j ≠ 0) : modD (.int i) (.int j) S = .ok (.int (fmodI i j)) S := if_pos h
theorem fdivD_ok {i j : Int} {S : Sto} (h : DivOk i j) : fdivD (.int i) (.int j) S = .ok (.int (fdivI i j)) S := if_pos h
theorem stp_cases {s : Int} (h : s ∈ stp) : s = 1 ∨ s = 2 ∨ s = -1 ∨ s = -2 := by
  simp only [stp, List.mem_cons, List.not_mem_nil, or_false] at h
  exact h
theorem bl_eq {b c : Bool} (h : b = c) {S : Sto} : Res.ok (D.bl b) S = .ok (.bl c) S := by rw [h]
theorem reached_is (b c s : Int) (hs : s ∈ stp) (S : Sto) : Fis_reached [.int b, .int c, .int s] S = .ok (.bl (rchI b c s)) S := by
  have key : ∀ s : Int, s ≠ 0 → DivOk (c - b) s → Fis_reached [.int b, .int c, .int s] S = .ok (.bl (decide (fmodI (c - b) s = 0) && decide (0 ≤ fdivI (c - b) s))) S := fun s h1 h2 => by
    by_cases h : fmodI (c - b) s = 0
    · simp only [Fis_reached, runD, bis_reached, go0, goS, subD_i, modD_ok h1, eqD_int, h, decide_true, fdivD_ok h2, geD_i, Bool.true_and]
      exact fin_same rfl
    · simp only [Fis_reached, runD, bis_reached, go0, goS, subD_i, modD_ok h1, eqD_int, h, decide_false, Bool.false_and]
      exact fin_same rfl
  rcases stp_cases hs with rfl | rfl | rfl | rfl
  · rw [key 1 (by decide) (.inr ⟨by decide, by decide⟩)]
    refine bl_eq ?_
    unfold rchI fmodI fdivI
    rw [if_pos (by decide), if_pos (by decide), if_pos rfl, Bool.eq_iff_iff]
    simp only [Bool.and_eq_true, decide_eq_true_eq]
    omega
  · rw [key 2 (by decide) (.inr ⟨by decide, by decide⟩)]
    refine bl_eq ?_
    unfold rchI fmodI fdivI
    rw [if_pos (by decide), if_pos (by decide), if_neg (by decide), if_pos rfl, Bool.eq_iff_iff]
    simp only [Bool.and_eq_true, decide_eq_true_eq]
    omega
  · rw [key (-1) (by decide) (.inr ⟨by decide, by decide⟩)]
    refine bl_eq ?_
    unfold rchI fmodI fdivI
    rw [if_neg (by decide), if_neg (by decide), if_neg (by decide), if_neg (by decide), if_pos rfl, Bool.eq_iff_iff]
    simp only [Bool.and_eq_true, decide_eq_true_eq, Int.neg_neg]
    omega
  · rw [key (-2) (by decide) (.inr ⟨by decide, by decide⟩)]
    refine bl_eq ?_
    unfold rchI fmodI fdivI
    rw [if_neg (by decide), if_neg (by decide), if_neg (by decide), if_neg (by decide), if_neg (by decide), Bool.eq_iff_iff]
    simp only [Bool.and_eq_true, decide_eq_true_eq, Int.neg_neg]
    omega
/-- good things: their kind is told by what they are -/
noncomputable def Gd (d : D) : Prop := kd d = true ∧ ∀ xs, d = .tup xs → ∀ x ∈ xs, kd x = true
theorem four {α : Type} {xs : List α} (h : xs.length = 4) : ∃ a b c d, xs = [a, b, c, d] := by
  match xs, h with
  | [a, b, c, d], _ => exact ⟨a, b, c, d, rfl⟩
theorem runB_not {d : D} (h : ∀ xs, d = .tup xs → xs.length ≠ 4) : runB d = false := by
  cases d with
  | tup xs =>
    have := h xs rfl
    match xs, this with
    | [], _ => rfl
    | [_], _ => rfl
    | [_, _], _ => rfl
    | [_, _, _], _ => rfl
    | [_, _, _, _], h => exact absurd rfl h
    | _ :: _ :: _ :: _ :: _ :: _, _ => rfl
  | _ => rfl
theorem inT4 {s : Int} {S : Sto} : inD true (.int s) (.tup [.int 1, .int 2, .int (-1), .int (-2)]) S = .ok (.bl (!decide (s ∈ stp))) S := inT_ints (xs := stp)
theorem run_is (d : D) (h : Gd d) (S : Sto) : Fis_run [d] S = .ok (.bl (runB d)) S := by
  obtain ⟨h1, h2⟩ := h
  cases d with
  | tup xs =>
    by_cases hl : xs.length = 4
    · obtain ⟨x0, x1, x2, x3, rfl⟩ := four hl
      have k0 := h2 _ rfl x0 (by simp)
      have k1 := h2 _ rfl x1 (by simp)
      have k2 := h2 _ rfl x2 (by simp)
      have k3 := h2 _ rfl x3 (by simp)
      have i0 : atI [x0, x1, x2, x3] 0 = some x0 := rfl
      have i1 : atI [x0, x1, x2, x3] 1 = some x1 := rfl
      have i2 : atI [x0, x1, x2, x3] 2 = some x2 := rfl
      have i3 : atI [x0, x1, x2, x3] 3 = some x3 := rfl
      have ln : lenD [.tup [x0, x1, x2, x3]] S = .ok (.int 4) S := rfl
      cases e0 : strB x0 with
      | false =>
        simp only [Fis_run, runD, bis_run, go0, goS, is_tup_tup, Bool.not_true, ln, neD_int, decide_true, ixD_tup, i0, street_is x0 k0, e0, Bool.not_false, runB, Bool.false_and]
        exact fin_same rfl
      | true =>
        cases e1 : hsB x1 with
        | false =>
          simp only [Fis_run, runD, bis_run, go0, goS, is_tup_tup, Bool.not_true, ln, neD_int, decide_true, ixD_tup, i0, i1, street_is x0 k0, house_is x1 k1, e0, e1, Bool.not_false, runB, Bool.false_and, Bool.true_and]
          exact fin_same rfl
        | true =>
          cases e2 : hsB x2 with
          | false =>
            simp only [Fis_run, runD, bis_run, go0, goS, is_tup_tup, Bool.not_true, ln, neD_int, decide_true, ixD_tup, i0, i1, i2, street_is x0 k0, house_is x1 k1, house_is x2 k2, e0, e1, e2, Bool.not_false, runB, Bool.false_and, Bool.true_and]
            exact fin_same rfl
          | true =>
            obtain ⟨b, rfl⟩ : ∃ b, x1 = .int b := by cases x1 <;> first | exact ⟨_, rfl⟩ | (simp [hsB] at e1)
            obtain ⟨c, rfl⟩ : ∃ c, x2 = .int c := by cases x2 <;> first | exact ⟨_, rfl⟩ | (simp [hsB] at e2)
            cases x3 with
            | int s =>
              have w := whole_is (.int s) rfl S
              simp only [whB] at w
              by_cases hs : s ∈ stp
              · have rr := reached_is b c s hs S
                simp only [Fis_run, runD, bis_run, go0, goS, is_tup_tup, Bool.not_true, ln, neD_int, decide_true, ixD_tup, i0, i1, i2, i3, street_is x0 k0, house_is _ k1, house_is _ k2, e0, e1, e2, w, inT4, hs, rr, runB, Bool.true_and]
                exact fin_same rfl
              · simp only [Fis_run, runD, bis_run, go0, goS, is_tup_tup, Bool.not_true, ln, neD_int, decide_true, ixD_tup, i0, i1, i2, i3, street_is x0 k0, house_is _ k1, house_is _ k2, e0, e1, e2, w, inT4, hs, decide_false, Bool.not_false, runB, Bool.true_and, Bool.false_and]
                exact fin_same rfl
            | _ =>
              have w := whole_is _ k3 S
              simp only [whB] at w
              simp only [Fis_run, runD, bis_run, go0, goS, is_tup_tup, Bool.not_true, ln, neD_int, decide_true, ixD_tup, i0, i1, i2, i3, street_is x0 k0, house_is _ k1, house_is _ k2, e0, e1, e2, w, Bool.not_false, runB, Bool.and_false]
              exact fin_same rfl
    · have ln : ¬ (xs.length : Int) = 4 := by omega
      rw [runB_not fun ys e => by cases e; exact hl]
      simp only [Fis_run, runD, bis_run, go0, goS, is_tup_tup, Bool.not_true, lenD_tup, neD_int, ln, decide_false, Bool.not_false]
      exact fin_same rfl
  | _ => first | (cases h1; done) | (simp only [Fis_run, runD, bis_run, go0, goS, goT, Bool.not_false, runB]; exact fin_same rfl)
theorem Pu_app {S T : Sto} {k : Nat} {o : DO} (h : k < S.length) (hT : Pu' S k T) : Pu' (S ++ [o]) k (T ++ [o]) := by
  obtain ⟨c, m, p, h1, h2, h3, rfl⟩ := hT.ex
  exact ⟨⟨c, m, p, h1, h2, h3, Pg_app h⟩⟩
theorem Pu_last {S T : Sto} {k : Nat} {o : DO} (h : k < S.length) (hT : Pu' (S ++ [o]) k T) : T[S.length]? = some o := by
  obtain ⟨c, m, p, h1, h2, h3, rfl⟩ := hT.ex
  exact Pg_last h
theorem Pu_setl {S T : Sto} {k : Nat} {o q : DO} (h : k < S.length) (hT : Pu' (S ++ [o]) k T) : Pu' (S ++ [q]) k (T.set S.length q) := by
  obtain ⟨c, m, p, h1, h2, h3, rfl⟩ := hT.ex
  exact ⟨⟨c, m, p, h1, h2, h3, Pg_setl h⟩⟩
theorem Pu_len {S T : Sto} {k : Nat} (hT : Pu' S k T) : T.length = S.length := by
  obtain ⟨c, m, p, h1, h2, h3, rfl⟩ := hT.ex
  exact Pg_len
theorem lpE : (596216567187872108348956733961803993280 : Int).natAbs.log2 < 9000 := by decide +kernel
theorem log_small {i : Int} (h0 : 0 < i) (h : i ≤ 596216567187872108348956733961803993281) : i.natAbs.log2 < 9000 := by
  have h1 : i.natAbs ≠ 0 := by omega
  have h2 : i.natAbs < 2 ^ 200 := Nat.lt_of_le_of_lt (show i.natAbs ≤ 596216567187872108348956733961803993281 by omega) (by decide)
  have := (Nat.log2_lt h1).mpr h2
  omega
theorem lawrunG {S T : Sto} {k : Nat} (hk : k < S.length) (hT : Pu' S k T) (far : Bool) (st : Nat) (st0 : 0 < st) (st1 : st ≤ 31) : ∃ (a f x s : Int) (T' : Sto), 0 ≤ a ∧ a < st ∧ 1 ≤ f ∧ f < 596216567187872108348956733961803993281 ∧ s ∈ stp ∧ 0 ≤ x ∧ (far = false → x < 8) ∧ 1 ≤ f + x * s ∧ f + x * s < 596216567187872108348956733961803993281 ∧ rchI f (f + x * s) s = true ∧ Pu' S k T' ∧ F_law_run [.ref k, .int (st : Nat), .bl far] T = .ok (intsT [a, f, f + x * s, s]) T' := by
  obtain ⟨a, T1, ha, hT1, q1⟩ := drawN (many := st) hk hT st0 (by omega)
  obtain ⟨j, T2, hj, hT2, q2⟩ := drawN (many := 4) hk hT1 (by decide) (by decide)
  have q1' := q1
  have q2' : F_law_draw [.ref k, .int 4] T1 = .ok (.int (j : Nat)) T2 := q2
  have hs : ∃ s : Int, s ∈ stp ∧ atI [D.int 1, D.int 2, D.int (-1), D.int (-2)] (j : Nat) = some (.int s) := by
    rw [atI_cast]
    match j, hj with
    | 0, _ => exact ⟨1, by decide, rfl⟩
    | 1, _ => exact ⟨2, by decide, rfl⟩
    | 2, _ => exact ⟨-1, by decide, rfl⟩
    | 3, _ => exact ⟨-2, by decide, rfl⟩
  obtain ⟨s, hs, ix⟩ := hs
  -- the first number, and the most
  have hfm : ∃ (f m : Int) (T3 : Sto), 1 ≤ f ∧ f < 596216567187872108348956733961803993281 ∧ 1 ≤ m ∧ m ≤ 596216567187872108348956733961803993281 ∧ (far = false → m ≤ 8) ∧ Pu' S k T3 ∧ (sIf (tNotD (eTr (eVar 2))) (sSeq (sSet 5 (e2 addD (eC (.int 1)) (eFn F_law_draw [(eVar 0), (eC (.int 30))]))) (sSet 6 (eC (.int 8)))) (sSeq (sSet 5 (e2 addD (eC (.int 1)) (eFn F_law_draw [(eVar 0), (e2 subD (e2 powD (eC (.int 31)) (eC (.int 26))) (eC (.int 1)))]))) (sSet 6 (e2 powD (eC (.int 31)) (eC (.int 26)))))) [some (.ref k), some (.int (st : Nat)), some (.bl far), some (.int (a : Nat)), some (.int s), none, none] T2 = .next [some (.ref k), some (.int (st : Nat)), some (.bl far), some (.int (a : Nat)), some (.int s), some (.int f), some (.int m)] T3 := by
    cases far with
    | false =>
      obtain ⟨d, T3, hd, hT3, q3⟩ := drawN (many := 30) hk hT2 (by decide) (by decide)
      have q3' : F_law_draw [.ref k, .int 30] T2 = .ok (.int (d : Nat)) T3 := q3
      refine ⟨1 + (d : Nat), 8, T3, by omega, by omega, by decide, by decide, (fun _ => by decide), hT3, ?_⟩
      simp only [goS, Bool.not_false, q3', addD_int]
    | true =>
      obtain ⟨d, T3, hd0, hd, hT3, q3⟩ := drawI (many := 596216567187872108348956733961803993280) hk hT2 (by decide) lpE
      refine ⟨1 + d, 596216567187872108348956733961803993281, T3, by omega, by omega, by decide, Int.le_refl _, (fun h => by cases h), hT3, ?_⟩
      simp only [goS, Bool.not_true, p31, subD_i]
      rw [show (596216567187872108348956733961803993281 : Int) - 1 = 596216567187872108348956733961803993280 by decide]
      simp only [goS, q3, addD_int, p31]
  obtain ⟨f, m, T3, f1, f2, m1, m2, m8, hT3, qf⟩ := hfm
  -- how many fit
  have hmm : ∃ n : Int, 1 ≤ n ∧ n ≤ 596216567187872108348956733961803993281 ∧ n ≤ m ∧ (∀ x : Int, 0 ≤ x → x < n → 1 ≤ f + x * s ∧ f + x * s < 596216567187872108348956733961803993281 ∧ rchI f (f + x * s) s = true) ∧ (sIf (eTB (e2 gtD (eVar 4) (eC (.int 0)))) (sSet 6 (eCall (ii2D minI) [(eVar 6), (e2 addD (e2 fdivD (e2 subD (e2 subD (e2 powD (eC (.int 31)) (eC (.int 26))) (eC (.int 1))) (eVar 5)) (eVar 4)) (eC (.int 1)))])) (sSet 6 (eCall (ii2D minI) [(eVar 6), (e2 addD (e2 fdivD (e2 subD (eVar 5) (eC (.int 1))) (e1 negD (eVar 4))) (eC (.int 1)))]))) [some (.ref k), some (.int (st : Nat)), some (.bl far), some (.int (a : Nat)), some (.int s), some (.int f), some (.int m)] T3 = .next [some (.ref k), some (.int (st : Nat)), some (.bl far), some (.int (a : Nat)), some (.int s), some (.int f), some (.int n)] T3 := by
    have mi : ∀ i j : Int, ii2D minI [.int i, .int j] T3 = .ok (.int (minI i j)) T3 := fun i j => rfl
    rcases stp_cases hs with rfl | rfl | rfl | rfl
    · have dv := fdivD_pos (i := 596216567187872108348956733961803993281 - 1 - f) (j := 1) (S := T3) (by decide) (by decide +kernel)
      refine ⟨minI m ((596216567187872108348956733961803993281 - 1 - f) / 1 + 1), ?_, ?_, ?_, fun x h0 h1 => ?_, ?_⟩
      · unfold minI; split <;> omega
      · unfold minI; split <;> omega
      · unfold minI; split <;> omega
      · have : x ≤ 596216567187872108348956733961803993281 - 1 - f := by unfold minI at h1; split at h1 <;> omega
        refine ⟨by omega, by omega, ?_⟩
        unfold rchI
        rw [if_pos rfl]
        exact decide_eq_true (by omega)
      · simp only [goS, gtD_i, show (0 : Int) < 1 by decide, decide_true, p31, subD_i, dv, addD_int, mi]
    · have dv := fdivD_pos (i := 596216567187872108348956733961803993281 - 1 - f) (j := 2) (S := T3) (by decide) (by decide +kernel)
      refine ⟨minI m ((596216567187872108348956733961803993281 - 1 - f) / 2 + 1), ?_, ?_, ?_, fun x h0 h1 => ?_, ?_⟩
      · unfold minI; split <;> omega
      · unfold minI; split <;> omega
      · unfold minI; split <;> omega
      · have : x ≤ (596216567187872108348956733961803993281 - 1 - f) / 2 := by unfold minI at h1; split at h1 <;> omega
        refine ⟨by omega, by omega, ?_⟩
        unfold rchI
        rw [if_neg (by decide), if_pos rfl]
        exact decide_eq_true (by omega)
      · simp only [goS, gtD_i, show (0 : Int) < 2 by decide, decide_true, p31, subD_i, dv, addD_int, mi]
    · have dv := fdivD_pos (i := f - 1) (j := 1) (S := T3) (by decide) (by decide +kernel)
      refine ⟨minI m ((f - 1) / 1 + 1), ?_, ?_, ?_, fun x h0 h1 => ?_, ?_⟩
      · unfold minI; split <;> omega
      · unfold minI; split <;> omega
      · unfold minI; split <;> omega
      · have : x ≤ f - 1 := by unfold minI at h1; split at h1 <;> omega
        refine ⟨by omega, by omega, ?_⟩
        unfold rchI
        rw [if_neg (by decide), if_neg (by decide), if_pos rfl]
        exact decide_eq_true (by omega)
      · simp only [goS, gtD_i, show ¬ (0 : Int) < -1 by decide, decide_false, subD_i, negD_int, Int.neg_neg, dv, addD_int, mi]
    · have dv := fdivD_pos (i := f - 1) (j := 2) (S := T3) (by decide) (by decide +kernel)
      refine ⟨minI m ((f - 1) / 2 + 1), ?_, ?_, ?_, fun x h0 h1 => ?_, ?_⟩
      · unfold minI; split <;> omega
      · unfold minI; split <;> omega
      · unfold minI; split <;> omega
      · have : x ≤ (f - 1) / 2 := by unfold minI at h1; split at h1 <;> omega
        refine ⟨by omega, by omega, ?_⟩
        unfold rchI
        rw [if_neg (by decide), if_neg (by decide), if_neg (by decide)]
        exact decide_eq_true (by omega)
      · simp only [goS, gtD_i, show ¬ (0 : Int) < -2 by decide, decide_false, subD_i, negD_int, Int.neg_neg, dv, addD_int, mi]
  obtain ⟨n, n1, n2, n3, hx, qm⟩ := hmm
  obtain ⟨x, T4, x0, x1, hT4, q4⟩ := drawI (many := n) hk hT3 (by omega) (log_small (by omega) n2)
  obtain ⟨g1, g2, g3⟩ := hx x x0 x1
  have fm : FitMul x s := .right (by rcases stp_cases hs with rfl | rfl | rfl | rfl <;> decide) (by rcases stp_cases hs with rfl | rfl | rfl | rfl <;> decide)
  refine ⟨(a : Nat), f, x, s, T4, by omega, by omega, f1, f2, hs, x0, (fun h => by have := m8 h; omega), g1, g2, g3, hT4, ?_⟩
  have e0 : F_law_run [.ref k, .int (st : Nat), .bl far] T = retD .frz T (sSeq (sIf (tNotD (eTr (eVar 2))) (sSeq (sSet 5 (e2 addD (eC (.int 1)) (eFn F_law_draw [(eVar 0), (eC (.int 30))]))) (sSet 6 (eC (.int 8)))) (sSeq (sSet 5 (e2 addD (eC (.int 1)) (eFn F_law_draw [(eVar 0), (e2 subD (e2 powD (eC (.int 31)) (eC (.int 26))) (eC (.int 1)))]))) (sSet 6 (e2 powD (eC (.int 31)) (eC (.int 26)))))) (sSeq (sIf (eTB (e2 gtD (eVar 4) (eC (.int 0)))) (sSet 6 (eCall (ii2D minI) [(eVar 6), (e2 addD (e2 fdivD (e2 subD (e2 subD (e2 powD (eC (.int 31)) (eC (.int 26))) (eC (.int 1))) (eVar 5)) (eVar 4)) (eC (.int 1)))])) (sSet 6 (eCall (ii2D minI) [(eVar 6), (e2 addD (e2 fdivD (e2 subD (eVar 5) (eC (.int 1))) (e1 negD (eVar 4))) (eC (.int 1)))]))) (sRet (eTup [(eVar 3), (eVar 5), (e2 addD (eVar 5) (e2 mulD (eFn F_law_draw [(eVar 0), (eVar 6)]) (eVar 4))), (eVar 4)]))) [some (.ref k), some (.int (st : Nat)), some (.bl far), some (.int (a : Nat)), some (.int s), none, none] T2) := by
    simp only [F_law_run, runD, b_law_run, go0, ap_Seq, ap_Set, ap_2, ap_Fn, ap_Args, ap_Args0, ap_Var0, ap_VarS, ap_C, ap_1, ap_Tup, negD_int, Res.bind_ok, Res.stm_ok, SRes.seq_next, list_set0, list_setS, rep_0, rep_S, q1', q2', ixD_tup, ix, opt_some]
  rw [e0, ap_Seq, qf, SRes.seq_next, ap_Seq, qm, SRes.seq_next]
  simp only [goS, q4, mulD_ok fm, addD_int]
  exact fin_pu0 hk hT hT4 rfl
noncomputable abbrev Rn := Int × Int × Int × Int
noncomputable def rnD (r : Rn) : D := .tup [.int r.1, .int r.2.1, .int r.2.2.1, .int r.2.2.2]
noncomputable def RnOk (r : Rn) : Prop := 0 ≤ r.1 ∧ r.1 < 31 ∧ 1 ≤ r.2.1 ∧ r.2.1 < 596216567187872108348956733961803993281 ∧ 1 ≤ r.2.2.1 ∧ r.2.2.1 < 596216567187872108348956733961803993281 ∧ r.2.2.2 ∈ stp ∧ ∃ n : Nat, r.2.2.1 = r.2.1 + n * r.2.2.2
/-- whether a number stands in a run -/
noncomputable def hasR (r : Rn) (n : Int) : Prop := min r.2.1 r.2.2.1 ≤ n ∧ n ≤ max r.2.1 r.2.2.1 ∧ (n - r.2.1) % (r.2.2.2.natAbs : Nat) = 0
noncomputable instance (r : Rn) (n : Int) : Decidable (hasR r n) := by unfold hasR; infer_instance
noncomputable def hsR (r : Rn) : Int := fdivI (r.2.2.1 - r.2.1) r.2.2.2 + 1
theorem run_good {r : Rn} (h : RnOk r) : Gd (rnD r) ∧ runB (rnD r) = true := by
  obtain ⟨h0, h1, h2, h3, h4, h5, h6, m, hm⟩ := h
  refine ⟨⟨rfl, fun xs e x hx => ?_⟩, ?_⟩
  · cases e
    simp only [List.mem_cons, List.not_mem_nil, or_false] at hx
    rcases hx with rfl | rfl | rfl | rfl <;> rfl
  · have h7 : rchI r.2.1 r.2.2.1 r.2.2.2 = true := by
      unfold rchI
      rcases stp_cases h6 with e | e | e | e
      · rw [if_pos e]; rw [e] at hm; exact decide_eq_true (by omega)
      · rw [e] at hm; rw [e, if_neg (by decide), if_pos rfl]; exact decide_eq_true (by omega)
      · rw [e] at hm; rw [e, if_neg (by decide), if_neg (by decide), if_pos rfl]; exact decide_eq_true (by omega)
      · rw [e] at hm; rw [e, if_neg (by decide), if_neg (by decide), if_neg (by decide)]; exact decide_eq_true (by omega)
    simp only [rnD, runB, strB, hsB, h0, h1, h2, h3, h4, h5, h6, h7, if_true, decide_true, Bool.and_self]
noncomputable abbrev Wk := List Rn
noncomputable def wkD (w : Wk) : D := tpD rnD w
noncomputable def wsD (ws : List Wk) : D := tpD wkD ws
noncomputable def WsOk (ws : List Wk) : Prop := ws.length ≤ 10 ∧ ∀ w ∈ ws, w.length ≤ 20 ∧ ∀ r ∈ w, RnOk r
theorem all_wh (xs : List D) (h : ∀ x ∈ xs, kd x = true) (hl : xs.length < 1000) (e : En) (S : Sto) (he : e[0]? = some (some (.tup xs))) (hl2 : e.length = 6) : nLc [5] (.nm 5) (iS (eVar 0)) tYesD (eFn F_law_is_whole [(eVar 5)]) e S = .ok (.lst ((xs.map whB).map D.bl)) S := by
  refine nLcS_tup (xs := xs) (ap_Var he) (by omega) ?_
  rw [List.map_map]
  have := lc_all (ys := xs) (tg := .nm 5) (f := eFn F_law_is_whole [(eVar 5)]) (e := wipeE e [5]) (S := S) id (D.bl ∘ whB) xs fun x hx => ⟨(wipeE e [5]).set 5 (some x), rfl, by
    have hv : eVar 5 ((wipeE e [5]).set 5 (some x)) S = .ok x S := ap_Var (by
      rw [List.getElem?_set_self]
      show 5 < (e.set 5 none).length
      rw [List.length_set, hl2]
      decide)
    rw [ap_Fn, ap_Args, hv, Res.bind_ok, ap_Args0, Res.bind_ok, Res.bind_ok, lawwhole_is x (h x hx)]
    rfl⟩
  rw [List.map_id] at this
  exact this
theorem lawrun_is (d : D) (h : Gd d) (hsm : ∀ xs, d = .tup xs → xs.length < 900) (S : Sto) : F_law_is_run [d] S = .ok (.bl (runB d)) S := by
  obtain ⟨h1, h2⟩ := h
  cases d with
  | tup xs =>
    by_cases hl : xs.length = 4
    · obtain ⟨x0, x1, x2, x3, rfl⟩ := four hl
      have k1 := h2 _ rfl x1 (by simp)
      have k2 := h2 _ rfl x2 (by simp)
      have aw := all_wh [x0, x1, x2, x3] (h2 _ rfl) (by simp) [some (.tup [x0, x1, x2, x3]), none, none, none, none, none] S rfl rfl
      have ln : lenD [.tup [x0, x1, x2, x3]] S = .ok (.int 4) S := rfl
      have bb : boolsD (fun bs => bs.all id) [.lst (([x0, x1, x2, x3].map whB).map D.bl)] S = .ok (.bl (([x0, x1, x2, x3].map whB).all id)) S := boolsD_map
      cases ea : ([x0, x1, x2, x3].map whB).all id with
      | false =>
        have : runB (.tup [x0, x1, x2, x3]) = false := by
          cases x0 <;> cases x1 <;> cases x2 <;> cases x3 <;> first | rfl | (simp [runB, hsB, strB]; done) | (simp [whB] at ea)
        rw [this]
        simp only [F_law_is_run, runD, b_law_is_run, go0, goS, is_tup_tup, Bool.not_true, ln, neD_int, decide_true, aw, bb, ea, Bool.not_false]
        exact fin_same rfl
      | true =>
        simp only [List.map_cons, List.map_nil, List.all_cons, List.all_nil, id, Bool.and_true, Bool.and_eq_true] at ea
        obtain ⟨a, rfl⟩ : ∃ b, x0 = .int b := by cases x0 <;> first | exact ⟨_, rfl⟩ | (simp [whB] at ea)
        obtain ⟨b, rfl⟩ : ∃ b, x1 = .int b := by cases x1 <;> first | exact ⟨_, rfl⟩ | (simp [whB] at ea)
        obtain ⟨c, rfl⟩ : ∃ b, x2 = .int b := by cases x2 <;> first | exact ⟨_, rfl⟩ | (simp [whB] at ea)
        obtain ⟨s, rfl⟩ : ∃ b, x3 = .int b := by cases x3 <;> first | exact ⟨_, rfl⟩ | (simp [whB] at ea)
        have bb' : boolsD (fun bs => bs.all id) [.lst (([D.int a, .int b, .int c, .int s].map whB).map D.bl)] S = .ok (.bl true) S := by rw [bb]; rfl
        by_cases s0 : 0 ≤ a
        · by_cases s1 : a < 31
          · cases e1 : hsB (.int b) with
            | false =>
              simp only [F_law_is_run, runD, b_law_is_run, go0, goS, is_tup_tup, Bool.not_true, ln, neD_int, decide_true, aw, bb', leD_i, ltD_i, s0, s1, lawhouse_is _ k1, e1, Bool.not_false, runB, strB, if_true, Bool.false_and, Bool.and_false]
              exact fin_same rfl
            | true =>
              cases e2 : hsB (.int c) with
              | false =>
                simp only [F_law_is_run, runD, b_law_is_run, go0, goS, is_tup_tup, Bool.not_true, ln, neD_int, decide_true, aw, bb', leD_i, ltD_i, s0, s1, lawhouse_is _ k1, lawhouse_is _ k2, e1, e2, Bool.not_false, runB, strB, if_true, Bool.false_and, Bool.and_false]
                exact fin_same rfl
              | true =>
                by_cases hs : s ∈ stp
                · have ha : absD [.int s] S = .ok (.int (s.natAbs : Nat)) S := absD_int s S
                  have hn0 : (0 : Int) < (s.natAbs : Nat) := by rcases stp_cases hs with rfl | rfl | rfl | rfl <;> decide
                  have bq : eqD false (.bl (decide (b < c))) (.bl (decide (0 < s))) S = .ok (.bl (decide (decide (b < c) = decide (0 < s)))) S := Rp.bl.eq (by decide) _ _ S
                  by_cases hbc : b = c
                  · subst hbc
                    have t1 : rchI b b s = true := by
                      unfold rchI
                      rcases stp_cases hs with rfl | rfl | rfl | rfl <;> simp
                    simp only [F_law_is_run, runD, b_law_is_run, go0, goS, is_tup_tup, Bool.not_true, ln, neD_int, decide_true, aw, bb', leD_i, ltD_i, s0, s1, lawhouse_is _ k1, e1, negD_int, inT4, hs, eqD_int, runB, strB, if_true, t1, Bool.and_self]
                    exact fin_same rfl
                  · have fin : (decide (decide (b < c) = decide (0 < s)) && decide ((c - b) % (s.natAbs : Nat) = 0)) = rchI b c s := by
                      unfold rchI
                      rcases stp_cases hs with rfl | rfl | rfl | rfl
                      · rw [if_pos rfl, Bool.eq_iff_iff]
                        simp only [Bool.and_eq_true, decide_eq_true_eq, decide_eq_decide]
                        show ((b < c ↔ (0 : Int) < 1) ∧ (c - b) % 1 = 0) ↔ _
                        omega
                      · rw [if_neg (by decide), if_pos rfl, Bool.eq_iff_iff]
                        simp only [Bool.and_eq_true, decide_eq_true_eq, decide_eq_decide]
                        show ((b < c ↔ (0 : Int) < 2) ∧ (c - b) % 2 = 0) ↔ _
                        omega
                      · rw [if_neg (by decide), if_neg (by decide), if_pos rfl, Bool.eq_iff_iff]
                        simp only [Bool.and_eq_true, decide_eq_true_eq, decide_eq_decide]
                        show ((b < c ↔ (0 : Int) < -1) ∧ (c - b) % 1 = 0) ↔ _
                        omega
                      · rw [if_neg (by decide), if_neg (by decide), if_neg (by decide), Bool.eq_iff_iff]
                        simp only [Bool.and_eq_true, decide_eq_true_eq, decide_eq_decide]
                        show ((b < c ↔ (0 : Int) < -2) ∧ (c - b) % 2 = 0) ↔ _
                        omega
                    have md : modD (.int (c - b)) (.int (s.natAbs : Nat)) S = .ok (.int ((c - b) % (s.natAbs : Nat))) S := modD_pos hn0
                    cases eq : decide (decide (b < c) = decide (0 < s)) with
                    | false =>
                      rw [eq, Bool.false_and] at fin
                      simp only [F_law_is_run, runD, b_law_is_run, go0, goS, is_tup_tup, Bool.not_true, ln, neD_int, decide_true, aw, bb', leD_i, ltD_i, s0, s1, lawhouse_is _ k1, lawhouse_is _ k2, e1, e2, negD_int, inT4, hs, eqD_int, hbc, decide_false, gtD_i, bq, eq, runB, strB, if_true, ← fin, Bool.and_self, Bool.and_false]
                      exact fin_same rfl
                    | true =>
                      rw [eq, Bool.true_and] at fin
                      simp only [F_law_is_run, runD, b_law_is_run, go0, goS, is_tup_tup, Bool.not_true, ln, neD_int, decide_true, aw, bb', leD_i, ltD_i, s0, s1, lawhouse_is _ k1, lawhouse_is _ k2, e1, e2, negD_int, inT4, hs, eqD_int, hbc, decide_false, gtD_i, bq, eq, subD_i, ha, md, runB, strB, if_true, ← fin, Bool.true_and]
                      exact fin_same rfl
                · simp only [F_law_is_run, runD, b_law_is_run, go0, goS, is_tup_tup, Bool.not_true, ln, neD_int, decide_true, aw, bb', leD_i, ltD_i, s0, s1, lawhouse_is _ k1, lawhouse_is _ k2, e1, e2, negD_int, inT4, hs, decide_false, Bool.not_false, runB, strB, if_true, Bool.false_and, Bool.and_false]
                  exact fin_same rfl
          · simp only [F_law_is_run, runD, b_law_is_run, go0, goS, is_tup_tup, Bool.not_true, ln, neD_int, decide_true, aw, bb', leD_i, ltD_i, s0, s1, decide_false, Bool.not_false, runB, strB, if_true, Bool.false_and]
            exact fin_same rfl
        · simp only [F_law_is_run, runD, b_law_is_run, go0, goS, is_tup_tup, Bool.not_true, ln, neD_int, decide_true, aw, bb', leD_i, ltD_i, s0, decide_false, Bool.not_false, runB, strB, if_false, Bool.false_and]
          exact fin_same rfl
    · have ln : ¬ (xs.length : Int) = 4 := by omega
      rw [runB_not fun ys e => by cases e; exact hl]
      simp only [F_law_is_run, runD, b_law_is_run, go0, goS, is_tup_tup, Bool.not_true, lenD_tup, neD_int, ln, decide_false, Bool.not_false]
      exact fin_same rfl
  | _ => first | (cases h1; done) | (simp only [F_law_is_run, runD, b_law_is_run, go0, goS, goT, Bool.not_false, runB]; exact fin_same rfl)
theorem Pu_atg {X T : Sto} {k j : Nat} (hT : Pu' X k T) (h : j ≠ k) : T[j]? = X[j]? := by
  obtain ⟨c, m, p, _, _, _, rfl⟩ := hT.ex
  unfold Pg
  exact List.getElem?_set_ne (by omega)
theorem Pu_setg {X T : Sto} {k j : Nat} {q : DO} (hT : Pu' X k T) (h : j ≠ k) : Pu' (X.set j q) k (T.set j q) := by
  obtain ⟨c, m, p, h1, h2, h3, rfl⟩ := hT.ex
  refine ⟨⟨c, m, p, h1, h2, h3, ?_⟩⟩
  unfold Pg
  exact List.set_comm _ _ (by omega)
theorem Pu_split {S Y T : Sto} {k : Nat} (h : k < S.length) (hT : Pu' (S ++ Y) k T) : ∃ T', Pu' S k T' ∧ T = T' ++ Y := by
  obtain ⟨c, m, p, h1, h2, h3, rfl⟩ := hT.ex
  exact ⟨_, ⟨⟨c, m, p, h1, h2, h3, rfl⟩⟩, (Pg_app h).symm⟩
theorem wk_inner {Y : Sto} {k : Nat} (hk : k < Y.length) (far : Bool) (x2 : Option D) (c : Nat) (hc : c ≤ 3) : ∀ (js : List Nat) (ys : List D) (w : Wk) (T : Sto), (∀ j ∈ js, j ≤ 4) → w.length + js.length < 1000 → (∀ r ∈ w, RnOk r ∧ (far = false → hsR r ≤ 8)) → Pu' (Y ++ [.lst (w.map rnD)]) k T → ∃ (w' : Wk) (T' : Sto), w'.length = w.length + js.length ∧ (∀ r ∈ w', RnOk r ∧ (far = false → hsR r ≤ 8)) ∧ Pu' (Y ++ [.lst (w'.map rnD)]) k T' ∧ forD [5, 6] (.nm 5) (.tmp ys) b_law_walks_1 (js.map fun j : Nat => D.int (j : Int)) [some (.ref k), some (.bl far), x2, some (.int (c : Nat)), some (.ref Y.length), none, none] T = .next [some (.ref k), some (.bl far), x2, some (.int (c : Nat)), some (.ref Y.length), none, none] T'
  | [], ys, w, T, _, _, hw, hT => ⟨w, T, rfl, hw, hT, forD_nil trivial⟩
  | j :: js, ys, w, T, hj, hl, hw, hT => by
    rw [List.length_cons] at hl
    have hk' : k < (Y ++ [DO.lst (w.map rnD)]).length := by simp; omega
    obtain ⟨a, f, x, s, T1, a0, a1, f0, f1, hs, x0, x8, l0, l1, rc, hT1, q1⟩ := lawrunG hk' hT far 3 (by decide) (by decide)
    obtain ⟨d, T2, hd, hT2, q2⟩ := drawN (many := 3) hk' hT1 (by decide) (by decide)
    have q1' : F_law_run [.ref k, .int 3, .bl far] T = .ok (intsT [a, f, f + x * s, s]) T1 := q1
    have q2' : F_law_draw [.ref k, .int 3] T1 = .ok (.int (d : Nat)) T2 := q2
    have hj4 := hj j List.mem_cons_self
    obtain ⟨n, hn⟩ := Int.eq_ofNat_of_zero_le x0
    have good : ∀ z : Int, 0 ≤ z → z < 31 → RnOk (z, f, f + x * s, s) ∧ (far = false → hsR (z, f, f + x * s, s) ≤ 8) := fun z z0 z1 => by
      refine ⟨⟨z0, z1, f0, f1, l0, l1, hs, n, by rw [hn]⟩, fun hf => ?_⟩
      have := x8 hf
      unfold hsR fdivI
      simp only
      rcases stp_cases hs with e | e | e | e <;> rw [e]
      · rw [if_pos (by decide)]; omega
      · rw [if_pos (by decide)]; omega
      · rw [if_neg (by decide), Int.neg_neg]; omega
      · rw [if_neg (by decide), Int.neg_neg]; omega
    have hat := Pu_last hk hT2
    have fin : ∀ r : Rn, RnOk r ∧ (far = false → hsR r ≤ 8) → turn [5, 6] (.nm 5) b_law_walks_1 (.int (j : Nat)) [some (.ref k), some (.bl far), x2, some (.int (c : Nat)), some (.ref Y.length), none, none] T = .next [some (.ref k), some (.bl far), x2, some (.int (c : Nat)), some (.ref Y.length), none, none] (T2.set Y.length (.lst ((w ++ [r]).map rnD))) → (∃ (w' : Wk) (T' : Sto), w'.length = w.length + (j :: js).length ∧ (∀ r ∈ w', RnOk r ∧ (far = false → hsR r ≤ 8)) ∧ Pu' (Y ++ [.lst (w'.map rnD)]) k T' ∧ forD [5, 6] (.nm 5) (.tmp ys) b_law_walks_1 ((j :: js).map fun j : Nat => D.int (j : Int)) [some (.ref k), some (.bl far), x2, some (.int (c : Nat)), some (.ref Y.length), none, none] T = .next [some (.ref k), some (.bl far), x2, some (.int (c : Nat)), some (.ref Y.length), none, none] T') := fun r hr ht => by
      have hw' : ∀ z ∈ w ++ [r], RnOk z ∧ (far = false → hsR z ≤ 8) := fun z hz => by
        rcases List.mem_append.mp hz with hz | hz
        · exact hw z hz
        · rw [List.mem_singleton.mp hz]; exact hr
      obtain ⟨w', T', p1, p2, p3, p4⟩ := wk_inner hk far x2 c hc js ys (w ++ [r]) _ (fun i hi => hj i (List.mem_cons_of_mem _ hi)) (by rw [List.length_append, List.length_singleton]; omega) hw' (Pu_setl (q := DO.lst ((w ++ [r]).map rnD)) hk hT2)
      refine ⟨w', T', ?_, p2, p3, ?_⟩
      · rw [p1, List.length_append, List.length_singleton, List.length_cons]; omega
      · rw [List.map_cons, forD_cons (src := .tmp ys) trivial, ht]
        exact p4
    have hap : ∀ r : Rn, appD (.ref Y.length) [rnD r] T2 = .ok .non (T2.set Y.length (.lst ((w ++ [r]).map rnD))) := fun r => by
      rw [appD_ref hat (sz (by rw [List.length_map]; omega)), List.map_append]
      rfl
    have re : intsT [a, f, f + x * s, s] = rnD (a, f, f + x * s, s) := rfl
    by_cases h0 : d = 0
    · have g0 : ¬ (0 : Int) < (d : Nat) := by omega
      refine fin _ (good a a0 (by omega)) ?_
      simp only [turn, goS, b_law_walks_1, q1', q2', gtD_i, g0, decide_false, isT_ref hat, if_true]
      rw [re]
      simp only [goS, hap]
    · have g0 : (0 : Int) < (d : Nat) := by omega
      have m1 : FitMul 5 (c : Nat) := .left (by decide) (by decide)
      have sl : slD (intsT [a, f, f + x * s, s]) (some 1) none T2 = .ok (.tup [.int f, .int (f + x * s), .int s]) T2 := by
        show slD (.tup _) (some ((1 : Nat) : Int)) none T2 = _
        rw [slD_tup, cut_from]
        rfl
      have ad : addD (.tup [.int (5 + 5 * (c : Nat) + (j : Nat))]) (.tup [.int f, .int (f + x * s), .int s]) T2 = .ok (rnD (5 + 5 * (c : Nat) + (j : Nat), f, f + x * s, s)) T2 := by
        rw [addD_tup, if_pos (Nat.le_of_lt (sz (by show 1 + 3 < 1048576; decide)))]
        rfl
      refine fin _ (good (5 + 5 * (c : Nat) + (j : Nat)) (by omega) (by omega)) ?_
      simp only [turn, goS, b_law_walks_1, q1', q2', gtD_i, g0, decide_true, mulD_ok m1, addD_int, sl, ad, isT_ref hat, if_true, hap]
theorem wk_outer {S : Sto} {k : Nat} (hk : k < S.length) (far : Bool) : ∀ (cs : List Nat) (ys : List D) (ws : List Wk) (J T : Sto), (∀ c ∈ cs, c ≤ 3) → ws.length + cs.length < 1000 → (∀ w ∈ ws, w.length ≤ 5 ∧ ∀ r ∈ w, RnOk r ∧ (far = false → hsR r ≤ 8)) → Pu' (S ++ [.lst (ws.map wkD)] ++ J) k T → ∃ (ws' : List Wk) (J' T' : Sto), ws'.length = ws.length + cs.length ∧ (∀ w ∈ ws', w.length ≤ 5 ∧ ∀ r ∈ w, RnOk r ∧ (far = false → hsR r ≤ 8)) ∧ Pu' (S ++ [.lst (ws'.map wkD)] ++ J') k T' ∧ forD [3, 4, 5, 6] (.nm 3) (.tmp ys) b_law_walks_2 (cs.map fun j : Nat => D.int (j : Int)) [some (.ref k), some (.bl far), some (.ref S.length), none, none, none, none] T = .next [some (.ref k), some (.bl far), some (.ref S.length), none, none, none, none] T'
  | [], ys, ws, J, T, _, _, hw, hT => ⟨ws, J, T, rfl, hw, hT, forD_nil trivial⟩
  | c :: cs, ys, ws, J, T, hc, hl, hw, hT => by
    rw [List.length_cons] at hl
    let Y : Sto := S ++ [.lst (ws.map wkD)] ++ J
    have hY : k < Y.length := by simp [Y]; omega
    have lT : T.length = Y.length := Pu_len hT
    have hT0 : Pu' (Y ++ [.lst (([] : Wk).map rnD)]) k (T ++ [.lst []]) := Pu_app hY hT
    have hY' : k < (Y ++ [DO.lst (([] : Wk).map rnD)]).length := by simp; omega
    obtain ⟨n, T1, hn, hT1, q1⟩ := drawN (many := 6) hY' hT0 (by decide) (by decide)
    have q1' : F_law_draw [.ref k, .int 6] (T ++ [.lst []]) = .ok (.int (n : Nat)) T1 := q1
    obtain ⟨w, T2, w1, w2, w3, w4⟩ := wk_inner hY far (some (.ref S.length)) c (hc c List.mem_cons_self) (List.range n) (rngD 0 (n : Nat)) [] T1 (fun j hj => by have := List.mem_range.mp hj; omega) (by rw [List.length_range, List.length_nil]; omega) (by simp) hT1
    rw [← rng_map] at w4
    have wl : w.length = n := by rw [w1, List.length_nil, List.length_range]; omega
    have hat := Pu_last hY w3
    have hat2 : T2[S.length]? = some (.lst (ws.map wkD)) := by
      rw [Pu_atg w3 (by omega)]
      simp [Y]
    have hs := Pu_setg (q := DO.lst ((ws ++ [w]).map wkD)) (j := S.length) w3 (by omega)
    have es : (Y ++ [DO.lst (w.map rnD)]).set S.length (.lst ((ws ++ [w]).map wkD)) = S ++ [.lst ((ws ++ [w]).map wkD)] ++ (J ++ [.lst (w.map rnD)]) := by
      simp [Y]
    rw [es] at hs
    have hap : appD (.ref S.length) [.tup (w.map rnD)] T2 = .ok .non (T2.set S.length (.lst ((ws ++ [w]).map wkD))) := by
      rw [appD_ref hat2 (sz (by rw [List.length_map]; omega)), List.map_append]
      rfl
    have ff : sFor [5, 6] (.nm 5) (iR1 (eFn F_law_draw [(eVar 0), (eC (.int 6))])) b_law_walks_1 [some (.ref k), some (.bl far), some (.ref S.length), some (.int (c : Nat)), some (.ref Y.length), none, none] (T ++ [.lst []]) = .next [some (.ref k), some (.bl far), some (.ref S.length), some (.int (c : Nat)), some (.ref Y.length), none, none] T2 := by
      rw [ap_For, ap_iR1]
      simp only [goS, q1', srcR1_ap]
      rw [if_pos (rg (by omega)), Res.stm_ok]
      exact w4
    have t : turn [3, 4, 5, 6] (.nm 3) b_law_walks_2 (.int (c : Nat)) [some (.ref k), some (.bl far), some (.ref S.length), none, none, none, none] T = .next [some (.ref k), some (.bl far), some (.ref S.length), none, none, none, none] (T2.set S.length (.lst ((ws ++ [w]).map wkD))) := by
      simp only [turn, goS, b_law_walks_2, lT, ff, isT_ref hat2, if_true, tupD_ref hat, hap]
    have hw' : ∀ z ∈ ws ++ [w], z.length ≤ 5 ∧ ∀ r ∈ z, RnOk r ∧ (far = false → hsR r ≤ 8) := fun z hz => by
      rcases List.mem_append.mp hz with hz | hz
      · exact hw z hz
      · rw [List.mem_singleton.mp hz]; exact ⟨by omega, w2⟩
    obtain ⟨ws', J', T', p1, p2, p3, p4⟩ := wk_outer hk far cs ys (ws ++ [w]) _ _ (fun i hi => hc i (List.mem_cons_of_mem _ hi)) (by rw [List.length_append, List.length_singleton]; omega) hw' hs
    refine ⟨ws', J', T', ?_, p2, p3, ?_⟩
    · rw [p1, List.length_append, List.length_singleton, List.length_cons]; omega
    · rw [List.map_cons, forD_cons (src := .tmp ys) trivial, t]
      exact p4
theorem lawwalks {S T : Sto} {k : Nat} (hk : k < S.length) (hT : Pu' S k T) (far : Bool) : ∃ (ws : List Wk) (T' : Sto), WsOk ws ∧ ws.length ≤ 4 ∧ (∀ w ∈ ws, w.length ≤ 5) ∧ (far = false → ∀ w ∈ ws, ∀ r ∈ w, hsR r ≤ 8) ∧ Pu' S k T' ∧ F_law_walks [.ref k, .bl far] T = .ok (wsD ws) T' := by
  have lT : T.length = S.length := Pu_len hT
  have hT0 : Pu' (S ++ [.lst (([] : List Wk).map wkD)]) k (T ++ [.lst []]) := Pu_app hk hT
  obtain ⟨n, T1, hn, hT1, q1⟩ := drawN (many := 5) (by simp; omega) hT0 (by decide) (by decide)
  have q1' : F_law_draw [.ref k, .int 5] (T ++ [.lst []]) = .ok (.int (n : Nat)) T1 := q1
  have hT1' : Pu' (S ++ [.lst (([] : List Wk).map wkD)] ++ []) k T1 := by rw [List.append_nil]; exact hT1
  obtain ⟨ws, J, T2, p1, p2, p3, p4⟩ := wk_outer hk far (List.range n) (rngD 0 (n : Nat)) [] [] T1 (fun j hj => by have := List.mem_range.mp hj; omega) (by rw [List.length_range, List.length_nil]; omega) (by simp) hT1'
  rw [← rng_map] at p4
  rw [List.length_nil, List.length_range, Nat.zero_add] at p1
  have hat : T2[S.length]? = some (.lst (ws.map wkD)) := by
    rw [Pu_atg p3 (by omega)]
    simp
  rw [List.append_assoc] at p3
  obtain ⟨T', hT', e⟩ := Pu_split hk p3
  refine ⟨ws, T', ⟨by omega, fun w hw => ⟨by have := (p2 w hw).1; omega, fun r hr => ((p2 w hw).2 r hr).1⟩⟩, by omega, fun w hw => (p2 w hw).1, fun hf w hw r hr => ((p2 w hw).2 r hr).2 hf, hT', ?_⟩
  have ff : sFor [3, 4, 5, 6] (.nm 3) (iR1 (eFn F_law_draw [(eVar 0), (eC (.int 5))])) b_law_walks_2 [some (.ref k), some (.bl far), some (.ref S.length), none, none, none, none] (T ++ [.lst []]) = .next [some (.ref k), some (.bl far), some (.ref S.length), none, none, none, none] T2 := by
    rw [ap_For, ap_iR1]
    simp only [goS, q1', srcR1_ap]
    rw [if_pos (rg (by omega)), Res.stm_ok]
    exact p4
  simp only [F_law_walks, runD, b_law_walks, go0, goS, lT, ff, tupD_ref hat]
  rw [e]
  exact fin_pu hk hT hT' (by
    show gnds (ws.map wkD) = true
    exact gnds_map (fun w => by
      show gnds (w.map rnD) = true
      exact gnds_map (fun r => rfl) w) ws) _
/-- a number whose text is short -/
noncomputable def Sm (i : Int) : Prop := i.natAbs.log2 < 1920 ∧ (decI i).length < 640
noncomputable def adL (a b : Int) : List Nat := decI a ++ [46] ++ decI b
noncomputable def ruW (s f l st : Int) : List (List Nat) := [adL s f, [116, 111], decI l, [98, 121], decI st]
noncomputable def ruL (s f l st : Int) : List Nat := joinL [32] (ruW s f l st)
theorem s_to : Str.ofString " to " = tx [32, 116, 111, 32] := by decide +kernel
theorem s_by : Str.ofString " by " = tx [32, 98, 121, 32] := by decide +kernel
theorem s_sp : Str.ofString " " = tx [32] := by decide +kernel
theorem s_tow : Str.ofString "to" = tx [116, 111] := by decide +kernel
theorem s_byw : Str.ofString "by" = tx [98, 121] := by decide +kernel
theorem show_ru (S : Sto) (s f l st : Int) (hs : Sm s) (hf : Sm f) (hl : Sm l) (ht : Sm st) : Fshow_run [.tup [.int s, .int f, .int l, .int st]] S = .ok (.str (tx (ruL s f l st))) S := by
  have l1 := hs.2
  have l2 := hf.2
  have l3 := hl.2
  have l4 := ht.2
  have sa := show_addr S s f hs.1 hf.1 l1 l2
  have a1 := tx_add (a := decI s ++ [46] ++ decI f) (b := [32, 116, 111, 32]) S (by simp; omega)
  have a2 := tx_add (a := decI s ++ [46] ++ decI f ++ [32, 116, 111, 32]) (b := decI l) S (by simp; omega)
  have a3 := tx_add (a := decI s ++ [46] ++ decI f ++ [32, 116, 111, 32] ++ decI l) (b := [32, 98, 121, 32]) S (by simp; omega)
  have a4 := tx_add (a := decI s ++ [46] ++ decI f ++ [32, 116, 111, 32] ++ decI l ++ [32, 98, 121, 32]) (b := decI st) S (by simp; omega)
  have e : decI s ++ [46] ++ decI f ++ [32, 116, 111, 32] ++ decI l ++ [32, 98, 121, 32] ++ decI st = ruL s f l st := by
    simp [ruL, ruW, joinL, adL]
  rw [e] at a4
  simp only [Fshow_run, runD, bshow_run, go0, goS, ap_Asg, bindT_tp, bindTs_cons, bindTs_nil, bindT_nm, sa, s_to, s_by, strI_tx S l hl.1, strI_tx S st ht.1, a1, a2, a3, a4]
  exact fin_same rfl
theorem ruW_no (s f l st : Int) (c : Nat) (hc : c = 32 ∨ c = 44 ∨ c = 59) : ∀ x ∈ ruW s f l st, c ∉ x := by
  have no : ∀ i : Int, c ∉ decI i := fun i h => by have := decI_sign h; omega
  intro x hx
  simp only [ruW, List.mem_cons, List.not_mem_nil, or_false] at hx
  rcases hx with rfl | rfl | rfl | rfl | rfl
  · intro h
    unfold adL at h
    simp only [List.mem_append, List.mem_cons, List.not_mem_nil, or_false] at h
    rcases h with (h | h) | h
    · exact no _ h
    · omega
    · exact no _ h
  · simp; omega
  · exact no _
  · simp; omega
  · exact no _
theorem ruL_eq (s f l st : Int) : ruL s f l st = decI s ++ [46] ++ decI f ++ [32, 116, 111, 32] ++ decI l ++ [32, 98, 121, 32] ++ decI st := by
  simp [ruL, ruW, joinL, adL]
theorem ruL_asc (s f l st : Int) : ∀ c ∈ ruL s f l st, c < 256 := by
  intro c hc
  rw [ruL_eq] at hc
  simp only [List.mem_append, List.mem_cons, List.not_mem_nil, or_false] at hc
  have := @decI_sign
  rcases hc with (((((hc | hc) | hc) | hc) | hc) | hc) | hc
  all_goals first
    | (have := decI_sign hc; omega)
    | omega
theorem run_in (S : Sto) (s f l st : Int) (hs : Sm s) (hf : Sm f) (hl : Sm l) (ht : Sm st) (hr : Fis_run [.tup [.int s, .int f, .int l, .int st]] S = .ok (.bl true) S) : Frun_in [.str (tx (ruL s f l st))] S = .ok (.tup [.int s, .int f, .int l, .int st]) S := by
  have l1 := hs.2
  have l2 := hf.2
  have l3 := hl.2
  have l4 := ht.2
  have sp := split_tx (f := eVar 0) (g := eC (.str (tx [32]))) (e := [some (.str (tx (ruL s f l st))), none, none]) S 32 [] (adL s f) [[116, 111], decI l, [98, 121], decI st] (ruW_no s f l st 32 (.inl rfl)) (ruL_asc s f l st) (fun x hx => by rw [List.mem_singleton.mp hx]; decide) (by
    show (ruL s f l st).length < _
    rw [ruL_eq]
    simp
    omega) rfl rfl
  have sp' : nSplit (eVar 0) (eC (.str (tx [32]))) [some (.str (tx (ruL s f l st))), none, none] S = .ok (.lst [.str (tx (adL s f)), .str (tx [116, 111]), .str (tx (decI l)), .str (tx [98, 121]), .str (tx (decI st))]) S := sp
  have m := must_ok S
  have ln : lenD [.lst [.str (tx (adL s f)), .str (tx [116, 111]), .str (tx (decI l)), .str (tx [98, 121]), .str (tx (decI st))]] S = .ok (.int 5) S := rfl
  have x0 : ixD (.lst [.str (tx (adL s f)), .str (tx [116, 111]), .str (tx (decI l)), .str (tx [98, 121]), .str (tx (decI st))]) (.int 0) S = .ok (.str (tx (adL s f))) S := rfl
  have x1 : ixD (.lst [.str (tx (adL s f)), .str (tx [116, 111]), .str (tx (decI l)), .str (tx [98, 121]), .str (tx (decI st))]) (.int 1) S = .ok (.str (tx [116, 111])) S := rfl
  have x2 : ixD (.lst [.str (tx (adL s f)), .str (tx [116, 111]), .str (tx (decI l)), .str (tx [98, 121]), .str (tx (decI st))]) (.int 2) S = .ok (.str (tx (decI l))) S := rfl
  have x3 : ixD (.lst [.str (tx (adL s f)), .str (tx [116, 111]), .str (tx (decI l)), .str (tx [98, 121]), .str (tx (decI st))]) (.int 3) S = .ok (.str (tx [98, 121])) S := rfl
  have x4 : ixD (.lst [.str (tx (adL s f)), .str (tx [116, 111]), .str (tx (decI l)), .str (tx [98, 121]), .str (tx (decI st))]) (.int 4) S = .ok (.str (tx (decI st))) S := rfl
  have q5 : eqD false (.int 5) (.int 5) S = .ok (.bl true) S := by rw [eqD_int]; rfl
  have as2 : ∀ a b : Nat, a < 200 → b < 200 → Asc [a, b] := fun a b ha hb c hc => by
    simp only [List.mem_cons, List.not_mem_nil, or_false] at hc
    omega
  have q6 : eqD false (.str (tx [116, 111])) (.str (tx [116, 111])) S = .ok (.bl true) S := by
    rw [tx_eqF (as2 _ _ (by decide) (by decide)) (as2 _ _ (by decide) (by decide)), decide_eq_true rfl]
  have q7 : eqD false (.str (tx [98, 121])) (.str (tx [98, 121])) S = .ok (.bl true) S := by
    rw [tx_eqF (as2 _ _ (by decide) (by decide)) (as2 _ _ (by decide) (by decide)), decide_eq_true rfl]
  have pr : Fpair_in [.str (tx (adL s f)), .str (tx [46])] S = .ok (.tup [.int s, .int f]) S := pair_ok S s f 46 (by omega) (by omega) l1 l2
  have ad : addD (.tup [.int s, .int f]) (.tup [.int l, .int st]) S = .ok (.tup [.int s, .int f, .int l, .int st]) S := rfl
  simp only [Frun_in, runD, brun_in, go0, goS, s_sp, s_tow, s_byw, s_dot, sp', ln, q5, x0, x1, x2, x3, x4, q6, q7, if_true, m, pr, whole_dec S l l3, whole_dec S st l4, ad, hr]
  exact fin_same rfl
theorem Rp.via {α β : Type} {f : α → D} {n : Nat} (hf : Rp f n) {g : β → α} (hg : ∀ x y, g x = g y → x = y) : Rp (fun x => f (g x)) n := ⟨fun x y => (hf.eqv _ _).trans ⟨hg x y, fun h => by rw [h]⟩, fun x => hf.lay _, fun x => hf.dep _, fun x S => hf.flat _ S, fun x => hf.gnd _⟩
noncomputable abbrev R4 := Int × Int × Int × Int
noncomputable def rD4 (r : R4) : D := .tup [.int r.1, .int r.2.1, .int r.2.2.1, .int r.2.2.2]
theorem rpR4 : Rp rD4 1 := Rp.via Rp.int.tp (g := fun r : R4 => [r.1, r.2.1, r.2.2.1, r.2.2.2]) fun x y h => by
  obtain ⟨a, b, c, d⟩ := x
  obtain ⟨e, f, g, i⟩ := y
  simpa using h
noncomputable def ru4 (r : R4) : List Nat := ruL r.1 r.2.1 r.2.2.1 r.2.2.2
/-- a run whose numbers have short texts -/
noncomputable def Sm4 (r : R4) : Prop := Sm r.1 ∧ Sm r.2.1 ∧ Sm r.2.2.1 ∧ Sm r.2.2.2 ∧ (∀ S, Fis_run [rD4 r] S = .ok (.bl true) S) ∧ (ru4 r).length < 300
noncomputable def wkL (rs : List R4) : List Nat := match rs with
  | [] => [45]
  | r :: rs => joinL [44, 32] ((r :: rs).map ru4)
theorem s_cm : Str.ofString ", " = tx [44, 32] := by decide +kernel
theorem join_bound (sep : List Nat) (k : Nat) : ∀ (ws : List (List Nat)), (∀ w ∈ ws, w.length ≤ k) → (joinL sep ws).length ≤ ws.length * (k + sep.length) := by
  intro ws
  induction ws with
  | nil => intro _; simp [joinL]
  | cons w ws ih =>
    intro h
    have h1 := h w List.mem_cons_self
    have h2 := ih fun x hx => h x (List.mem_cons_of_mem _ hx)
    rw [List.length_cons, Nat.succ_mul]
    cases ws with
    | nil => show w.length ≤ _; omega
    | cons v ws => rw [join_len]; omega
theorem join_mem (sep : List Nat) : ∀ (ws : List (List Nat)) (c : Nat), c ∈ joinL sep ws → c ∈ sep ∨ ∃ w ∈ ws, c ∈ w := by
  intro ws
  induction ws with
  | nil => intro c h; cases h
  | cons w ws ih =>
    intro c h
    cases ws with
    | nil => exact .inr ⟨w, List.mem_cons_self, h⟩
    | cons v ws =>
      have h : c ∈ w ++ sep ++ joinL sep (v :: ws) := h
      rcases List.mem_append.mp h with h | h
      · rcases List.mem_append.mp h with h | h
        · exact .inr ⟨w, List.mem_cons_self, h⟩
        · exact .inl h
      · rcases ih c h with h | ⟨x, hx, h⟩
        · exact .inl h
        · exact .inr ⟨x, List.mem_cons_of_mem _ hx, h⟩
theorem ru4_no (r : R4) (c : Nat) (hc : c = 44 ∨ c = 59) : c ∉ ru4 r := fun h => by
  rcases join_mem [32] _ c h with h | ⟨x, hx, h⟩
  · have := List.mem_singleton.mp h
    omega
  · exact ruW_no _ _ _ _ c (.inr hc) x hx h
theorem join_str (S : Sto) (sep w : List Nat) (ws : List (List Nat)) (h : (((w :: ws).map List.length).sum + (w :: ws).length * sep.length) ≤ 16777216) : joinD (.str (tx sep)) [.lst ((w :: ws).map fun l => D.str (tx l))] S = .ok (.str (tx (joinL sep (w :: ws)))) S := by
  have := joinD_lst (S := S) (s := tx sep) (zs := (w :: ws).map tx) (by
    unfold JoinFit
    rw [List.map_map, List.length_map, tx_len]
    have : ((w :: ws).map ((·.length) ∘ tx)) = (w :: ws).map List.length := List.map_congr_left fun x _ => tx_len x
    rw [this]
    exact h)
  rw [List.map_map, glued_tx] at this
  exact this
theorem show_wk (S : Sto) (rs : List R4) (hr : ∀ r ∈ rs, Sm4 r) (hl : rs.length < 1000) : Fshow_walk [tpD rD4 rs] S = .ok (.str (tx (wkL rs))) S := by
  have ne0 := rpR4.tp.ne (by decide) rs [] S
  have ne0' : eqD true (tpD rD4 rs) (.tup []) S = .ok (.bl (!decide (rs = []))) S := ne0
  cases rs with
  | nil =>
    have s_mi : Str.ofString "-" = tx [45] := s_minus
    simp only [Fshow_walk, runD, bshow_walk, go0, goS, ne0', decide_true, Bool.not_true, Bool.false_eq_true, if_false, s_mi]
    exact fin_same rfl
  | cons r rs =>
    rw [decide_eq_false (by simp)] at ne0'
    have lc : nLc [1] (.nm 1) (iS (eVar 0)) tYesD (eFn Fshow_run [(eVar 1)]) [some (tpD rD4 (r :: rs)), none] S = .ok (.lst ((r :: rs).map fun r => D.str (tx (ru4 r)))) S := by
      refine nLcS_tup (xs := (r :: rs).map rD4) rfl (by rw [List.length_map]; omega) ?_
      refine lc_all rD4 (fun r => D.str (tx (ru4 r))) (r :: rs) fun q hq => ⟨[some (tpD rD4 (r :: rs)), some (rD4 q)], rfl, ?_⟩
      have h := hr q hq
      have := show_ru S q.1 q.2.1 q.2.2.1 q.2.2.2 h.1 h.2.1 h.2.2.1 h.2.2.2.1
      simp only [goS]
      exact this
    have js := join_str S [44, 32] (ru4 r) (rs.map ru4) (by
      have : ∀ l : List R4, (∀ q ∈ l, Sm4 q) → ((l.map ru4).map List.length).sum ≤ l.length * 300 := by
        intro l
        induction l with
        | nil => exact fun _ => Nat.le_refl _
        | cons q l ih =>
          intro h
          have h1 := (h q List.mem_cons_self).2.2.2.2.2
          have h2 := ih fun x hx => h x (List.mem_cons_of_mem _ hx)
          rw [List.map_cons, List.map_cons, List.sum_cons, List.length_cons, Nat.succ_mul]
          omega
      have h1 := this (r :: rs) hr
      rw [List.map_cons] at h1
      have e2 : ((ru4 r) :: (rs.map ru4)).length = rs.length + 1 := by simp
      rw [e2]
      simp only [List.length_cons, List.length_nil] at h1 hl ⊢
      omega)
    rw [show ((ru4 r :: rs.map ru4).map fun l => D.str (tx l)) = (r :: rs).map fun r => D.str (tx (ru4 r)) by simp] at js
    simp only [Fshow_walk, runD, bshow_walk, go0, goS, ne0', Bool.not_false, if_true, s_cm, lc, js]
    exact fin_same rfl
theorem join_head (sep w : List Nat) (ws : List (List Nat)) (c : Nat) (h : c ∈ w) : c ∈ joinL sep (w :: ws) := by
  cases ws with
  | nil => exact h
  | cons v ws =>
    show c ∈ w ++ sep ++ joinL sep (v :: ws)
    exact List.mem_append_left _ (List.mem_append_left _ h)
theorem ru4_dot (r : R4) : 46 ∈ ru4 r := by
  show 46 ∈ ruL _ _ _ _
  rw [ruL_eq]
  simp
theorem wkL_ne (r : R4) (rs : List R4) : wkL (r :: rs) ≠ [45] := fun h => by
  have : 46 ∈ wkL (r :: rs) := join_head [44, 32] (ru4 r) (rs.map ru4) 46 (ru4_dot r)
  rw [h] at this
  have := List.mem_singleton.mp this
  omega
theorem wkL_asc (rs : List R4) : ∀ c ∈ wkL rs, c < 256 := by
  intro c hc
  cases rs with
  | nil => have := List.mem_singleton.mp hc; omega
  | cons r rs =>
    rcases join_mem [44, 32] _ c hc with h | ⟨w, hw, h⟩
    · simp only [List.mem_cons, List.not_mem_nil, or_false] at h
      omega
    · obtain ⟨q, _, rfl⟩ := List.mem_map.mp hw
      exact ruL_asc _ _ _ _ c h
noncomputable def bkL (ws : List (List R4)) : List Nat := match ws with
  | [] => [110, 111, 110, 101]
  | w :: ws => joinL [59, 32] ((w :: ws).map wkL)
theorem s_semi : Str.ofString "; " = tx [59, 32] := by decide +kernel
theorem s_nothing : Str.ofString "none" = tx [110, 111, 110, 101] := by decide +kernel
theorem wkL_no (rs : List R4) : 59 ∉ wkL rs := fun h => by
  cases rs with
  | nil => have := List.mem_singleton.mp h; omega
  | cons r rs =>
    rcases join_mem [44, 32] _ 59 h with h | ⟨w, hw, h⟩
    · simp only [List.mem_cons, List.not_mem_nil, or_false] at h
      omega
    · obtain ⟨q, _, rfl⟩ := List.mem_map.mp hw
      exact ru4_no q 59 (.inr rfl) h
/-- a walk's text has a minus or a dot -/
theorem wkL_sign (rs : List R4) : 45 ∈ wkL rs ∨ 46 ∈ wkL rs := by
  cases rs with
  | nil => exact .inl (List.mem_singleton_self _)
  | cons r rs => exact .inr (join_head [44, 32] (ru4 r) (rs.map ru4) 46 (ru4_dot r))
theorem bkL_ne (w : List R4) (ws : List (List R4)) : bkL (w :: ws) ≠ [110, 111, 110, 101] := fun h => by
  rcases wkL_sign w with q | q
  · have : 45 ∈ bkL (w :: ws) := join_head [59, 32] (wkL w) (ws.map wkL) 45 q
    rw [h] at this
    simp at this
  · have : 46 ∈ bkL (w :: ws) := join_head [59, 32] (wkL w) (ws.map wkL) 46 q
    rw [h] at this
    simp at this
theorem bkL_asc (ws : List (List R4)) : ∀ c ∈ bkL ws, c < 256 := by
  intro c hc
  cases ws with
  | nil =>
    simp only [bkL, List.mem_cons, List.not_mem_nil, or_false] at hc
    omega
  | cons r rs =>
    rcases join_mem [59, 32] _ c hc with h | ⟨w, hw, h⟩
    · simp only [List.mem_cons, List.not_mem_nil, or_false] at h
      omega
    · obtain ⟨q, _, rfl⟩ := List.mem_map.mp hw
      exact wkL_asc _ c h
/-- a small book -/
noncomputable def SmB (ws : List (List R4)) : Prop := ws.length < 30 ∧ ∀ w ∈ ws, w.length < 30 ∧ ∀ r ∈ w, Sm4 r
theorem wk_small (rs : List R4) (hr : ∀ r ∈ rs, Sm4 r) (hl : rs.length < 30) : (wkL rs).length ≤ 10000 := by
  cases rs with
  | nil => show 1 ≤ _; decide
  | cons r rs =>
    have := join_bound [44, 32] 300 ((r :: rs).map ru4) fun w hw => by
      obtain ⟨q, hq, rfl⟩ := List.mem_map.mp hw
      exact Nat.le_of_lt (hr q hq).2.2.2.2.2
    rw [List.length_map] at this
    have e : (wkL (r :: rs)).length ≤ (r :: rs).length * (300 + 2) := this
    omega
theorem show_bk (S : Sto) (ws : List (List R4)) (h : SmB ws) : Fshow_book [tpD (tpD rD4) ws] S = .ok (.str (tx (bkL ws))) S := by
  have ne0 := rpR4.tp.tp.ne (by decide) ws [] S
  have ne0' : eqD true (tpD (tpD rD4) ws) (.tup []) S = .ok (.bl (!decide (ws = []))) S := ne0
  cases ws with
  | nil =>
    simp only [Fshow_book, runD, bshow_book, go0, goS, ne0', decide_true, Bool.not_true, Bool.false_eq_true, if_false, s_nothing]
    exact fin_same rfl
  | cons w ws =>
    have hl : ws.length + 1 < 30 := h.1
    rw [decide_eq_false (by simp)] at ne0'
    have lc : nLc [1] (.nm 1) (iS (eVar 0)) tYesD (eFn Fshow_walk [(eVar 1)]) [some (tpD (tpD rD4) (w :: ws)), none] S = .ok (.lst ((w :: ws).map fun r => D.str (tx (wkL r)))) S := by
      refine nLcS_tup (xs := (w :: ws).map (tpD rD4)) rfl (by rw [List.length_map, List.length_cons]; omega) ?_
      refine lc_all (tpD rD4) (fun r => D.str (tx (wkL r))) (w :: ws) fun q hq => ⟨[some (tpD (tpD rD4) (w :: ws)), some (tpD rD4 q)], rfl, ?_⟩
      have g := h.2 q hq
      have := show_wk S q g.2 (by omega)
      simp only [goS]
      exact this
    have js := join_str S [59, 32] (wkL w) (ws.map wkL) (by
      have : ∀ l : List (List R4), (∀ q ∈ l, q.length < 30 ∧ ∀ r ∈ q, Sm4 r) → ((l.map wkL).map List.length).sum ≤ l.length * 10000 := by
        intro l
        induction l with
        | nil => exact fun _ => Nat.le_refl _
        | cons q l ih =>
          intro h
          have h1 := wk_small q (h q List.mem_cons_self).2 (h q List.mem_cons_self).1
          have h2 := ih fun x hx => h x (List.mem_cons_of_mem _ hx)
          rw [List.map_cons, List.map_cons, List.sum_cons, List.length_cons, Nat.succ_mul]
          omega
      have h1 := this (w :: ws) h.2
      rw [List.map_cons] at h1
      have e2 : ((wkL w) :: (ws.map wkL)).length = ws.length + 1 := by simp
      rw [e2]
      simp only [List.length_cons, List.length_nil] at h1 ⊢
      omega)
    rw [show ((wkL w :: ws.map wkL).map fun l => D.str (tx l)) = (w :: ws).map fun r => D.str (tx (wkL r)) by simp] at js
    simp only [Fshow_book, runD, bshow_book, go0, goS, ne0', Bool.not_false, if_true, s_semi, lc, js]
    exact fin_same rfl
theorem text_ok (S : Sto) (x : Str) : Fmust_be_text [.str x] S = .ok .non S := by
  have m := must_ok S
  simp only [Fmust_be_text, runD, bmust_be_text, go0, goS, is_str_str, m]
  exact fin_same rfl
noncomputable def allS {α : Type} : List (Option α) → Option (List α)
  | [] => some []
  | none :: _ => none
  | some a :: l => (allS l).map (a :: ·)
theorem allS_none {α : Type} : ∀ l : List (Option α), none ∈ l → allS l = none
  | none :: _, _ => rfl
  | some a :: l, h => by
    have h' : none ∈ l := by simpa using h
    show (allS l).map _ = none
    rw [allS_none l h']
    rfl
theorem allS_some {α : Type} : ∀ l : List (Option α), ¬ none ∈ l → ∃ rs, allS l = some rs ∧ l = rs.map some
  | [], _ => ⟨[], rfl, rfl⟩
  | none :: _, h => absurd List.mem_cons_self h
  | some a :: l, h => by
    obtain ⟨rs, e1, e2⟩ := allS_some l fun z => h (List.mem_cons_of_mem _ z)
    refine ⟨a :: rs, ?_, by rw [e2]; rfl⟩
    show (allS l).map _ = _
    rw [e1]
    rfl
noncomputable def exO {α β : Type} (c : Str) (S : Sto) (o : Option α) (g : α → β) : Res β := match o with
  | some a => .ok (g a) S
  | none => .exc c S
theorem exO_some {α β : Type} (c : Str) (S : Sto) (a : α) (g : α → β) : exO c S (some a) g = .ok (g a) S := id rfl
theorem exO_none {α β : Type} (c : Str) (S : Sto) (g : α → β) : exO c S none g = .exc c S := id rfl
theorem lcX_all {ι α : Type} {tg : Tg} {ys : List D} {f : Ev D} {e : En} {S : Sto} (c : Str) (v : ι → D) (p : ι → Option α) (g : α → D) : ∀ (xs : List ι), (∀ x ∈ xs, ∃ e1, bindT tg (v x) e = some e1 ∧ f e1 S = exO c S (p x) g) → lcX tg (.tmp ys) tYesD f e (xs.map v) S = exO c S (allS (xs.map p)) fun rs => rs.map g
  | [], _ => by
    rw [List.map_nil, lcX_nil, if_pos (show (Src.tmp ys).ok S from trivial)]
    rfl
  | x :: xs, h => by
    obtain ⟨e1, q1, q2⟩ := h x List.mem_cons_self
    have ih := lcX_all (ys := ys) c v p g xs fun y hy => h y (List.mem_cons_of_mem _ hy)
    rw [List.map_cons, lcX_cons, if_pos (show (Src.tmp ys).ok S from trivial), q1]
    have hy : tYesD e1 S = .ok true S := rfl
    rw [List.map_cons]
    cases hp : p x with
    | none =>
      rw [hp, exO_none] at q2
      simp only [hy, nox_ok, Res.bind_ok, if_true, q2, bind_exc]
      rfl
    | some a =>
      rw [hp, exO_some] at q2
      simp only [hy, nox_ok, Res.bind_ok, if_true, q2, ih]
      cases hr : allS (xs.map p) with
      | none => simp only [exO_none, bind_exc, allS, hr, Option.map_none]
      | some rs => simp only [exO_some, Res.bind_ok, allS, hr, Option.map_some, List.map_cons]
theorem pair_anyO (S : Sto) {n k : Nat} {l : List Nat} (h : Tx n k l) (hn : n < 900000) (hk : k < 600) (c : Nat) : Fpair_in [.str (tx l), .str (tx [c])] S = exO "NoText" S (pairP c l) rowD := by
  rw [pair_any S h hn hk c]
  cases pairP c l <;> rfl
theorem Ly.ne_self {n : Nat} {d : D} (h : Ly n d) (hn : n ≤ 64) (S : Sto) : eqD true d d S = .ok (.bl false) S := by
  have h2 : Pu.eqB S d d = true := by
    unfold Pu.eqB
    rw [h.flat]
    exact SeqAt.eqv_refl _ h.lay
  unfold eqD
  rw [if_pos ⟨h.shp hn S, h.shp hn S⟩, h2]
  rfl
noncomputable def oX {α : Type} (f : α → D) : Option α → D
  | none => .non
  | some a => f a
theorem rpX {α : Type} {f : α → D} {n : Nat} (hf : Rp f n) (ht : ∀ x, ∃ ds, f x = .tup ds) : Rp (oX f) n := ⟨fun x y => by
  cases x with
  | none =>
    cases y with
    | none => simp [oX, D.py, PyData.eqv]
    | some q =>
      obtain ⟨ds, e⟩ := ht q
      simp [oX, e, D.py, PyData.eqv]
  | some p =>
    cases y with
    | none =>
      obtain ⟨ds, e⟩ := ht p
      simp [oX, e, D.py, PyData.eqv]
    | some q =>
      have := hf.eqv p q
      simp only [oX, this, Option.some.injEq], fun x => by cases x with | none => rfl | some p => exact hf.lay p, fun x => by cases x with | none => exact Nat.zero_le _ | some p => exact hf.dep p, fun x S => by cases x with | none => rfl | some p => exact hf.flat p S, fun x => by cases x with | none => rfl | some p => exact hf.gnd p⟩
theorem map_oX {α : Type} (f : α → D) (rs : List α) : (rs.map some).map (oX f) = rs.map f := by
  rw [List.map_map]
  exact List.map_congr_left fun _ _ => rfl
noncomputable def runR (p : Int × Int) (o q : Option Int) : Option Rn := match o, q with
  | some i, some j => if runB (rnD (p.1, p.2, i, j)) then some (p.1, p.2, i, j) else none
  | _, _ => none
noncomputable def runQ (ws : List (List Nat)) : Option Rn := match ws with
  | [a, t, b, y, c] => if t = [116, 111] then (if y = [98, 121] then (match pairP 46 a with
    | some p => runR p (wholeP b) (wholeP c)
    | none => none) else none) else none
  | _ => none
theorem runQ_not {ws : List (List Nat)} (h : ws.length ≠ 5) : runQ ws = none := by
  match ws, h with
  | [], _ => rfl
  | [_], _ => rfl
  | [_, _], _ => rfl
  | [_, _, _], _ => rfl
  | [_, _, _, _], _ => rfl
  | [_, _, _, _, _], h => exact absurd rfl h
  | _ :: _ :: _ :: _ :: _ :: _ :: _, _ => rfl
noncomputable def runP (l : List Nat) : Option Rn := runQ (splW [32] l)
theorem five' {α : Type} {xs : List α} (h : xs.length = 5) : ∃ a b c d e, xs = [a, b, c, d, e] := by
  match xs, h with
  | [a, b, c, d, e], _ => exact ⟨a, b, c, d, e, rfl⟩
theorem run_gd (p : Int × Int) (x y : D) (hx : kd x = true) (hy : kd y = true) : Gd (.tup [.int p.1, .int p.2, x, y]) := ⟨rfl, fun xs e z hz => by
  cases e
  simp only [List.mem_cons, List.not_mem_nil, or_false] at hz
  rcases hz with rfl | rfl | rfl | rfl
  · rfl
  · rfl
  · exact hx
  · exact hy⟩
theorem kd_oI (o : Option Int) : kd (oI o) = true := by cases o <;> rfl
theorem run_law (S : Sto) {n k : Nat} {l : List Nat} (h : Tx n k l) (hn : n < 900000) (hk : k < 600) : F_law_run_in [.str (tx l)] S = .ok (oX rnD (runP l)) S := by
  have hl := h.len
  obtain ⟨_, s2, s3, _⟩ := spl_facts [32] l
  have sp := spl_any (f := eVar 0) (g := eC (.str (tx [32]))) (e := [some (.str (tx l)), none, none]) S [32] l (by simp) (by omega) rfl rfl
  have wt : ∀ w ∈ splW [32] l, Tx n k w := fun w hw => spl_tx h hw
  unfold runP
  generalize splW [32] l = ws at *
  have ln : lenD [.lst (ws.map fun w => D.str (tx w))] S = .ok (.int (ws.length : Nat)) S := by rw [lenD_lst, List.length_map]
  by_cases h5 : ws.length = 5
  · obtain ⟨a, t, b, y, c, rfl⟩ := five' h5
    have ne5 : eqD true (.int (([a, t, b, y, c] : List (List Nat)).length : Nat)) (.int 5) S = .ok (.bl false) S := by rw [neD_int]; rfl
    have x0 : ixD (.lst ([a, t, b, y, c].map fun w => D.str (tx w))) (.int 0) S = .ok (.str (tx a)) S := rfl
    have x1 : ixD (.lst ([a, t, b, y, c].map fun w => D.str (tx w))) (.int 1) S = .ok (.str (tx t)) S := rfl
    have x2 : ixD (.lst ([a, t, b, y, c].map fun w => D.str (tx w))) (.int 2) S = .ok (.str (tx b)) S := rfl
    have x3 : ixD (.lst ([a, t, b, y, c].map fun w => D.str (tx w))) (.int 3) S = .ok (.str (tx y)) S := rfl
    have x4 : ixD (.lst ([a, t, b, y, c].map fun w => D.str (tx w))) (.int 4) S = .ok (.str (tx c)) S := rfl
    have e1 := tx_eqT (wt t (by simp)).Asc (b := [116, 111]) (fun c hc => by
      simp only [List.mem_cons, List.not_mem_nil, or_false] at hc
      omega) S
    have e2 := tx_eqT (wt y (by simp)).Asc (b := [98, 121]) (fun c hc => by
      simp only [List.mem_cons, List.not_mem_nil, or_false] at hc
      omega) S
    have pa := pair_law S (wt a (by simp)) hn hk 46
    have wb := whole_law S (wt b (by simp)) (by omega) hk
    have wc := whole_law S (wt c (by simp)) (by omega) hk
    by_cases q1 : t = [116, 111]
    · rw [decide_eq_true q1] at e1
      by_cases q2 : y = [98, 121]
      · rw [decide_eq_true q2] at e2
        have er : runQ [a, t, b, y, c] = (match pairP 46 a with
          | some p => runR p (wholeP b) (wholeP c)
          | none => none) := by
          unfold runQ
          simp only [q1, q2, if_true]
        rw [er]
        cases ep : pairP 46 a with
        | none =>
          rw [ep] at pa
          have pa : F_law_pair_in [.str (tx a), .str (tx [46])] S = .ok .non S := pa
          have isn : isND false .non S = .ok (.bl true) S := rfl
          simp only [F_law_run_in, runD, b_law_run_in, go0, goS, s_sp, sp, ln, ne5, x1, s_tow, e1, x3, s_byw, e2, Bool.not_true, Bool.false_eq_true, if_false, x0, s_dot, pa, isn, if_true]
          exact fin_same rfl
        | some p =>
          rw [ep] at pa
          have pa : F_law_pair_in [.str (tx a), .str (tx [46])] S = .ok (rowD p) S := pa
          have isn : isND false (rowD p) S = .ok (.bl false) S := rfl
          have ad : addD (rowD p) (.tup [oI (wholeP b), oI (wholeP c)]) S = .ok (.tup [.int p.1, .int p.2, oI (wholeP b), oI (wholeP c)]) S := by
            have := Pu.addT (f := id) (xs := [D.int p.1, D.int p.2]) (ys := [oI (wholeP b), oI (wholeP c)]) (S := S) (by simp)
            exact this
          have gd := run_gd p (oI (wholeP b)) (oI (wholeP c)) (kd_oI _) (kd_oI _)
          have ir := lawrun_is _ gd (fun xs e => by cases e; simp) S
          have gn : (D.tup [.int p.1, .int p.2, oI (wholeP b), oI (wholeP c)]).gnd = true := by
            cases wholeP b <;> cases wholeP c <;> rfl
          show _ = Res.ok (oX rnD (runR p (wholeP b) (wholeP c))) S
          cases hr : runB (.tup [.int p.1, .int p.2, oI (wholeP b), oI (wholeP c)]) with
          | true =>
            rw [hr] at ir
            have ev : oX rnD (runR p (wholeP b) (wholeP c)) = .tup [.int p.1, .int p.2, oI (wholeP b), oI (wholeP c)] := by
              cases eb : wholeP b with
              | none => rw [eb] at hr; cases ec : wholeP c <;> (rw [ec] at hr; simp [oI, runB] at hr)
              | some i =>
                cases ec : wholeP c with
                | none => rw [eb, ec] at hr; simp [oI, runB] at hr
                | some j =>
                  rw [eb, ec] at hr
                  show oX rnD (if runB (rnD (p.1, p.2, i, j)) then some (p.1, p.2, i, j) else none) = _
                  rw [if_pos (show runB (rnD (p.1, p.2, i, j)) = true from hr)]
                  rfl
            rw [ev]
            simp only [F_law_run_in, runD, b_law_run_in, go0, goS, s_sp, sp, ln, ne5, x1, s_tow, e1, x3, s_byw, e2, Bool.not_true, Bool.false_eq_true, if_false, x0, s_dot, pa, isn, x2, wb, x4, wc, ad, ir, if_true]
            exact fin_same gn
          | false =>
            rw [hr] at ir
            have ev : oX rnD (runR p (wholeP b) (wholeP c)) = .non := by
              cases eb : wholeP b with
              | none => rfl
              | some i =>
                cases ec : wholeP c with
                | none => rfl
                | some j =>
                  rw [eb, ec] at hr
                  show oX rnD (if runB (rnD (p.1, p.2, i, j)) then some (p.1, p.2, i, j) else none) = _
                  rw [if_neg (by rw [show runB (rnD (p.1, p.2, i, j)) = false from hr]; exact Bool.false_ne_true)]
                  rfl
            rw [ev]
            simp only [F_law_run_in, runD, b_law_run_in, go0, goS, s_sp, sp, ln, ne5, x1, s_tow, e1, x3, s_byw, e2, Bool.not_true, Bool.false_eq_true, if_false, x0, s_dot, pa, isn, x2, wb, x4, wc, ad, ir]
            exact fin_same rfl
      · rw [decide_eq_false q2] at e2
        have er : runQ [a, t, b, y, c] = none := by unfold runQ; simp only [q1, q2, if_true, if_false]
        rw [er]
        simp only [F_law_run_in, runD, b_law_run_in, go0, goS, s_sp, sp, ln, ne5, x1, s_tow, e1, x3, s_byw, e2, Bool.not_true, Bool.not_false, Bool.false_eq_true, if_false, if_true]
        exact fin_same rfl
    · rw [decide_eq_false q1] at e1
      have er : runQ [a, t, b, y, c] = none := by unfold runQ; simp only [q1, if_false]
      rw [er]
      simp only [F_law_run_in, runD, b_law_run_in, go0, goS, s_sp, sp, ln, ne5, x1, s_tow, e1, Bool.not_false, Bool.false_eq_true, if_false, if_true]
      exact fin_same rfl
  · have ne5 : eqD true (.int (ws.length : Nat)) (.int 5) S = .ok (.bl true) S := by rw [neD_int, decide_eq_false (by omega)]; rfl
    rw [runQ_not h5]
    simp only [F_law_run_in, runD, b_law_run_in, go0, goS, s_sp, sp, ln, ne5, if_true]
    exact fin_same rfl
theorem rnD_gnd (r : Rn) : (rnD r).gnd = true := rfl
theorem run_any (S : Sto) {n k : Nat} {l : List Nat} (h : Tx n k l) (hn : n < 900000) (hk : k < 600) : Frun_in [.str (tx l)] S = exO "NoText" S (runP l) rnD := by
  have hl := h.len
  obtain ⟨_, s2, s3, _⟩ := spl_facts [32] l
  have sp := spl_any (f := eVar 0) (g := eC (.str (tx [32]))) (e := [some (.str (tx l)), none, none]) S [32] l (by simp) (by omega) rfl rfl
  have wt : ∀ w ∈ splW [32] l, Tx n k w := fun w hw => spl_tx h hw
  unfold runP
  generalize splW [32] l = ws at *
  have ln : lenD [.lst (ws.map fun w => D.str (tx w))] S = .ok (.int (ws.length : Nat)) S := by rw [lenD_lst, List.length_map]
  have my := must_ok S
  have mn := must_no S
  by_cases h5 : ws.length = 5
  · obtain ⟨a, t, b, y, c, rfl⟩ := five' h5
    have ne5 : eqD false (.int (([a, t, b, y, c] : List (List Nat)).length : Nat)) (.int 5) S = .ok (.bl true) S := by rw [eqD_int]; rfl
    have x0 : ixD (.lst ([a, t, b, y, c].map fun w => D.str (tx w))) (.int 0) S = .ok (.str (tx a)) S := rfl
    have x1 : ixD (.lst ([a, t, b, y, c].map fun w => D.str (tx w))) (.int 1) S = .ok (.str (tx t)) S := rfl
    have x2 : ixD (.lst ([a, t, b, y, c].map fun w => D.str (tx w))) (.int 2) S = .ok (.str (tx b)) S := rfl
    have x3 : ixD (.lst ([a, t, b, y, c].map fun w => D.str (tx w))) (.int 3) S = .ok (.str (tx y)) S := rfl
    have x4 : ixD (.lst ([a, t, b, y, c].map fun w => D.str (tx w))) (.int 4) S = .ok (.str (tx c)) S := rfl
    have e1 := tx_eqF (wt t (by simp)).Asc (b := [116, 111]) (fun c hc => by
      simp only [List.mem_cons, List.not_mem_nil, or_false] at hc
      omega) S
    have e2 := tx_eqF (wt y (by simp)).Asc (b := [98, 121]) (fun c hc => by
      simp only [List.mem_cons, List.not_mem_nil, or_false] at hc
      omega) S
    have pa := pair_anyO S (wt a (by simp)) hn hk 46
    have wb := whole_any S (wt b (by simp)) (by omega) hk
    have wc := whole_any S (wt c (by simp)) (by omega) hk
    by_cases q1 : t = [116, 111]
    · rw [decide_eq_true q1] at e1
      by_cases q2 : y = [98, 121]
      · rw [decide_eq_true q2] at e2
        have er : runQ [a, t, b, y, c] = (match pairP 46 a with
          | some p => runR p (wholeP b) (wholeP c)
          | none => none) := by
          unfold runQ
          simp only [q1, q2, if_true]
        rw [er]
        cases ep : pairP 46 a with
        | none =>
          rw [ep, exO_none] at pa
          simp only [Frun_in, runD, brun_in, go0, goS, s_sp, sp, ln, ne5, x1, s_tow, e1, x3, s_byw, e2, if_true, my, x0, s_dot, pa, bind_exc, stm_exc, seq_exc]
          exact exc_same
        | some p =>
          rw [ep, exO_some] at pa
          cases eb : wholeP b with
          | none =>
            rw [eb] at wb
            simp only at wb
            simp only [Frun_in, runD, brun_in, go0, goS, s_sp, sp, ln, ne5, x1, s_tow, e1, x3, s_byw, e2, if_true, my, x0, s_dot, pa, x2, wb, bind_exc, stm_exc, seq_exc]
            exact exc_same
          | some i =>
            rw [eb] at wb
            simp only at wb
            cases ec : wholeP c with
            | none =>
              rw [ec] at wc
              simp only at wc
              simp only [Frun_in, runD, brun_in, go0, goS, s_sp, sp, ln, ne5, x1, s_tow, e1, x3, s_byw, e2, if_true, my, x0, s_dot, pa, x2, wb, x4, wc, bind_exc, stm_exc, seq_exc]
              exact exc_same
            | some j =>
              rw [ec] at wc
              simp only at wc
              have ad : addD (rowD p) (.tup [.int i, .int j]) S = .ok (rnD (p.1, p.2, i, j)) S := by
                have := Pu.addT (f := id) (xs := [D.int p.1, D.int p.2]) (ys := [D.int i, D.int j]) (S := S) (by simp)
                exact this
              have ir := run_is (rnD (p.1, p.2, i, j)) (run_gd p (.int i) (.int j) rfl rfl) S
              show _ = exO "NoText" S (if runB (rnD (p.1, p.2, i, j)) then some (p.1, p.2, i, j) else none) rnD
              cases hr : runB (rnD (p.1, p.2, i, j)) with
              | true =>
                rw [hr] at ir
                rw [if_pos rfl]
                simp only [Frun_in, runD, brun_in, go0, goS, s_sp, sp, ln, ne5, x1, s_tow, e1, x3, s_byw, e2, if_true, my, x0, s_dot, pa, x2, wb, x4, wc, ad, ir]
                exact fin_same (rnD_gnd _)
              | false =>
                rw [hr] at ir
                rw [if_neg Bool.false_ne_true]
                simp only [Frun_in, runD, brun_in, go0, goS, s_sp, sp, ln, ne5, x1, s_tow, e1, x3, s_byw, e2, if_true, my, x0, s_dot, pa, x2, wb, x4, wc, ad, ir, mn, bind_exc, stm_exc, seq_exc]
                exact exc_same
      · rw [decide_eq_false q2] at e2
        have er : runQ [a, t, b, y, c] = none := by unfold runQ; simp only [q1, q2, if_true, if_false]
        rw [er]
        simp only [Frun_in, runD, brun_in, go0, goS, s_sp, sp, ln, ne5, x1, s_tow, e1, x3, s_byw, e2, if_true, mn, bind_exc, stm_exc, seq_exc]
        exact exc_same
    · rw [decide_eq_false q1] at e1
      have er : runQ [a, t, b, y, c] = none := by unfold runQ; simp only [q1, if_false]
      rw [er]
      simp only [Frun_in, runD, brun_in, go0, goS, s_sp, sp, ln, ne5, x1, s_tow, e1, if_true, Bool.false_eq_true, if_false, mn, bind_exc, stm_exc, seq_exc]
      exact exc_same
  · have ne5 : eqD false (.int (ws.length : Nat)) (.int 5) S = .ok (.bl false) S := by rw [eqD_int, decide_eq_false (by omega)]
    rw [runQ_not h5]
    simp only [Frun_in, runD, brun_in, go0, goS, s_sp, sp, ln, ne5, Bool.false_eq_true, if_false, mn, bind_exc, stm_exc, seq_exc]
    exact exc_same
theorem rpRn' : Rp rnD 1 := Rp.via Rp.int.tp (g := fun r : Rn => [r.1, r.2.1, r.2.2.1, r.2.2.2]) fun x y h => by
  obtain ⟨a, b, c, d⟩ := x
  obtain ⟨a', b', c', d'⟩ := y
  simp only [List.cons.injEq, and_true] at h
  obtain ⟨rfl, rfl, rfl, rfl⟩ := h
  rfl
noncomputable def walkP (l : List Nat) : Option (List Rn) := if l = [45] then some [] else allS ((splW [44, 32] l).map runP)
noncomputable def bookP (l : List Nat) : Option (List (List Rn)) := if l = [110, 111, 110, 101] then some [] else allS ((splW [59, 32] l).map walkP)
theorem walk_law (S : Sto) {n k : Nat} {l : List Nat} (h : Tx n k l) (hn : n < 900000) (hk : k < 600) : F_law_walk_in [.str (tx l)] S = .ok (oX (tpD rnD) (walkP l)) S := by
  have hl := h.len
  have e1 := tx_eqF h.Asc (b := [45]) (fun c hc => by rw [List.mem_singleton.mp hc]; decide) S
  unfold walkP
  by_cases h0 : l = [45]
  · rw [if_pos h0]
    rw [decide_eq_true h0] at e1
    simp only [F_law_walk_in, runD, b_law_walk_in, go0, goS, s_minus, e1, if_true]
    exact fin_same rfl
  rw [if_neg h0]
  rw [decide_eq_false h0] at e1
  obtain ⟨_, s2, s3, _⟩ := spl_facts [44, 32] l
  have sp := spl_any (f := eVar 0) (g := eC (.str (tx [44, 32]))) (e := [some (.str (tx l)), none, none]) S [44, 32] l (by simp) (by omega) rfl rfl
  have wt : ∀ w ∈ splW [44, 32] l, Tx n k w := fun w hw => spl_tx h hw
  generalize splW [44, 32] l = ws at *
  have lc : nLc [2] (.nm 2) (iS (eAno (nSplit (eVar 0) (eC (.str (tx [44, 32])))))) tYesD (eFn F_law_run_in [(eVar 2)]) [some (.str (tx l)), none, none] S = .ok (.lst ((ws.map runP).map (oX rnD))) S := by
    refine nLcS_lst (xs := ws.map fun w => D.str (tx w)) ?_ (by rw [List.length_map]; omega) ?_
    · have : eAno (nSplit (eVar 0) (eC (.str (tx [44, 32])))) [some (.str (tx l)), none, none] S = (nSplit (eVar 0) (eC (.str (tx [44, 32]))) [some (.str (tx l)), none, none] S).bind anoD := ap_Ano
      rw [this, sp]
      rfl
    · rw [List.map_map]
      exact lc_all (fun w => D.str (tx w)) (oX rnD ∘ runP) ws fun w hw => ⟨[some (.str (tx l)), none, some (.str (tx w))], rfl, by simp only [goS, run_law S (wt w hw) hn hk, Function.comp]⟩
  have inn := inL_rp (rpX rpRn' fun r => ⟨_, rfl⟩) (by decide) none (ws.map runP) false S
  by_cases hi : (none : Option Rn) ∈ ws.map runP
  · rw [allS_none _ hi]
    have inT : inD false .non (.lst ((ws.map runP).map (oX rnD))) S = .ok (.bl true) S := inn.trans (by simp only [Bool.false_eq_true, if_false, hi, decide_true])
    simp only [F_law_walk_in, runD, b_law_walk_in, go0, goS, s_minus, e1, Bool.false_eq_true, if_false, s_cm, lc, inT, if_true]
    exact fin_same rfl
  · obtain ⟨rs, g1, g2⟩ := allS_some _ hi
    have inF : inD false .non (.lst ((ws.map runP).map (oX rnD))) S = .ok (.bl false) S := inn.trans (by simp only [Bool.false_eq_true, if_false, hi, decide_false])
    rw [g1]
    rw [g2, map_oX] at lc inF
    have tu : tupD [.lst (rs.map rnD)] S = .ok (tpD rnD rs) S := tupD_lst
    simp only [F_law_walk_in, runD, b_law_walk_in, go0, goS, s_minus, e1, Bool.false_eq_true, if_false, s_cm, lc, inF, tu]
    exact fin_same (rpRn'.tp.gnd _)
theorem walk_any (S : Sto) {n k : Nat} {l : List Nat} (h : Tx n k l) (hn : n < 900000) (hk : k < 600) : Fwalk_in [.str (tx l)] S = exO "NoText" S (walkP l) (tpD rnD) := by
  have hl := h.len
  have e1 := tx_eqF h.Asc (b := [45]) (fun c hc => by rw [List.mem_singleton.mp hc]; decide) S
  unfold walkP
  by_cases h0 : l = [45]
  · rw [if_pos h0]
    rw [decide_eq_true h0] at e1
    simp only [Fwalk_in, runD, bwalk_in, go0, goS, s_minus, e1, if_true]
    exact fin_same rfl
  rw [if_neg h0]
  rw [decide_eq_false h0] at e1
  obtain ⟨_, s2, s3, _⟩ := spl_facts [44, 32] l
  have sp := spl_any (f := eVar 0) (g := eC (.str (tx [44, 32]))) (e := [some (.str (tx l)), none]) S [44, 32] l (by simp) (by omega) rfl rfl
  have wt : ∀ w ∈ splW [44, 32] l, Tx n k w := fun w hw => spl_tx h hw
  generalize splW [44, 32] l = ws at *
  have lc : nLcX [1] (.nm 1) (iS (eAno (nSplit (eVar 0) (eC (.str (tx [44, 32])))))) tYesD (eFn Frun_in [(eVar 1)]) [some (.str (tx l)), none] S = exO "NoText" S (allS (ws.map runP)) fun rs => DO.lst (rs.map rnD) := by
    rw [nLcXS_lst' (xs := ws.map fun w => D.str (tx w)) (by
      have : eAno (nSplit (eVar 0) (eC (.str (tx [44, 32])))) [some (.str (tx l)), none] S = (nSplit (eVar 0) (eC (.str (tx [44, 32]))) [some (.str (tx l)), none] S).bind anoD := ap_Ano
      rw [this, sp]
      rfl) (by rw [List.length_map]; omega) (lcX_all "NoText" (fun w => D.str (tx w)) runP rnD ws fun w hw => ⟨[some (.str (tx l)), some (.str (tx w))], rfl, by simp only [goS, run_any S (wt w hw) hn hk]⟩)]
    cases allS (ws.map runP) <;> rfl
  cases ha : allS (ws.map runP) with
  | none =>
    rw [ha, exO_none] at lc
    simp only [Fwalk_in, runD, bwalk_in, go0, goS, s_minus, e1, Bool.false_eq_true, if_false, s_cm, lc, bind_exc, stm_exc, seq_exc]
    exact exc_same
  | some rs =>
    rw [ha, exO_some] at lc
    have tu : tupD [.lst (rs.map rnD)] S = .ok (tpD rnD rs) S := tupD_lst
    simp only [Fwalk_in, runD, bwalk_in, go0, goS, s_minus, e1, Bool.false_eq_true, if_false, s_cm, lc, tu]
    exact fin_same (rpRn'.tp.gnd _)
theorem book_law (S : Sto) {n k : Nat} {l : List Nat} (h : Tx n k l) (hn : n < 900000) (hk : k < 600) : F_law_book_in [.str (tx l)] S = .ok (oX (tpD (tpD rnD)) (bookP l)) S := by
  have hl := h.len
  have e1 := tx_eqF h.Asc (b := [110, 111, 110, 101]) (fun c hc => by
    simp only [List.mem_cons, List.not_mem_nil, or_false] at hc
    omega) S
  unfold bookP
  by_cases h0 : l = [110, 111, 110, 101]
  · rw [if_pos h0]
    rw [decide_eq_true h0] at e1
    simp only [F_law_book_in, runD, b_law_book_in, go0, goS, s_nothing, e1, if_true]
    exact fin_same rfl
  rw [if_neg h0]
  rw [decide_eq_false h0] at e1
  obtain ⟨_, s2, s3, _⟩ := spl_facts [59, 32] l
  have sp := spl_any (f := eVar 0) (g := eC (.str (tx [59, 32]))) (e := [some (.str (tx l)), none, none]) S [59, 32] l (by simp) (by omega) rfl rfl
  have wt : ∀ w ∈ splW [59, 32] l, Tx n k w := fun w hw => spl_tx h hw
  generalize splW [59, 32] l = ws at *
  have lc : nLc [2] (.nm 2) (iS (eAno (nSplit (eVar 0) (eC (.str (tx [59, 32])))))) tYesD (eFn F_law_walk_in [(eVar 2)]) [some (.str (tx l)), none, none] S = .ok (.lst ((ws.map walkP).map (oX (tpD rnD)))) S := by
    refine nLcS_lst (xs := ws.map fun w => D.str (tx w)) ?_ (by rw [List.length_map]; omega) ?_
    · have : eAno (nSplit (eVar 0) (eC (.str (tx [59, 32])))) [some (.str (tx l)), none, none] S = (nSplit (eVar 0) (eC (.str (tx [59, 32]))) [some (.str (tx l)), none, none] S).bind anoD := ap_Ano
      rw [this, sp]
      rfl
    · rw [List.map_map]
      exact lc_all (fun w => D.str (tx w)) (oX (tpD rnD) ∘ walkP) ws fun w hw => ⟨[some (.str (tx l)), none, some (.str (tx w))], rfl, by simp only [goS, walk_law S (wt w hw) hn hk, Function.comp]⟩
  have inn := inL_rp (rpX rpRn'.tp fun r => ⟨_, rfl⟩) (by decide) none (ws.map walkP) false S
  by_cases hi : (none : Option (List Rn)) ∈ ws.map walkP
  · rw [allS_none _ hi]
    have inT : inD false .non (.lst ((ws.map walkP).map (oX (tpD rnD)))) S = .ok (.bl true) S := inn.trans (by simp only [Bool.false_eq_true, if_false, hi, decide_true])
    simp only [F_law_book_in, runD, b_law_book_in, go0, goS, s_nothing, e1, Bool.false_eq_true, if_false, s_semi, lc, inT, if_true]
    exact fin_same rfl
  · obtain ⟨rs, g1, g2⟩ := allS_some _ hi
    have inF : inD false .non (.lst ((ws.map walkP).map (oX (tpD rnD)))) S = .ok (.bl false) S := inn.trans (by simp only [Bool.false_eq_true, if_false, hi, decide_false])
    rw [g1]
    rw [g2, map_oX] at lc inF
    have tu : tupD [.lst (rs.map (tpD rnD))] S = .ok (tpD (tpD rnD) rs) S := tupD_lst
    simp only [F_law_book_in, runD, b_law_book_in, go0, goS, s_nothing, e1, Bool.false_eq_true, if_false, s_semi, lc, inF, tu]
    exact fin_same (rpRn'.tp.tp.gnd _)
theorem book_any (S : Sto) {n k : Nat} {l : List Nat} (h : Tx n k l) (hn : n < 900000) (hk : k < 600) : Fread_book [.str (tx l)] S = exO "NoText" S (bookP l) (tpD (tpD rnD)) := by
  have hl := h.len
  have tok := text_ok S (tx l)
  have e1 := tx_eqF h.Asc (b := [110, 111, 110, 101]) (fun c hc => by
    simp only [List.mem_cons, List.not_mem_nil, or_false] at hc
    omega) S
  unfold bookP
  by_cases h0 : l = [110, 111, 110, 101]
  · rw [if_pos h0]
    rw [decide_eq_true h0] at e1
    simp only [Fread_book, runD, bread_book, go0, goS, tok, s_nothing, e1, if_true]
    exact fin_same rfl
  rw [if_neg h0]
  rw [decide_eq_false h0] at e1
  obtain ⟨_, s2, s3, _⟩ := spl_facts [59, 32] l
  have sp := spl_any (f := eVar 0) (g := eC (.str (tx [59, 32]))) (e := [some (.str (tx l)), none]) S [59, 32] l (by simp) (by omega) rfl rfl
  have wt : ∀ w ∈ splW [59, 32] l, Tx n k w := fun w hw => spl_tx h hw
  generalize splW [59, 32] l = ws at *
  have lc : nLcX [1] (.nm 1) (iS (eAno (nSplit (eVar 0) (eC (.str (tx [59, 32])))))) tYesD (eFn Fwalk_in [(eVar 1)]) [some (.str (tx l)), none] S = exO "NoText" S (allS (ws.map walkP)) fun rs => DO.lst (rs.map (tpD rnD)) := by
    rw [nLcXS_lst' (xs := ws.map fun w => D.str (tx w)) (by
      have : eAno (nSplit (eVar 0) (eC (.str (tx [59, 32])))) [some (.str (tx l)), none] S = (nSplit (eVar 0) (eC (.str (tx [59, 32]))) [some (.str (tx l)), none] S).bind anoD := ap_Ano
      rw [this, sp]
      rfl) (by rw [List.length_map]; omega) (lcX_all "NoText" (fun w => D.str (tx w)) walkP (tpD rnD) ws fun w hw => ⟨[some (.str (tx l)), some (.str (tx w))], rfl, by simp only [goS, walk_any S (wt w hw) hn hk]⟩)]
    cases allS (ws.map walkP) <;> rfl
  cases ha : allS (ws.map walkP) with
  | none =>
    rw [ha, exO_none] at lc
    simp only [Fread_book, runD, bread_book, go0, goS, tok, s_nothing, e1, Bool.false_eq_true, if_false, s_semi, lc, bind_exc, stm_exc, seq_exc]
    exact exc_same
  | some rs =>
    rw [ha, exO_some] at lc
    have tu : tupD [.lst (rs.map (tpD rnD))] S = .ok (tpD (tpD rnD) rs) S := tupD_lst
    simp only [Fread_book, runD, bread_book, go0, goS, tok, s_nothing, e1, Bool.false_eq_true, if_false, s_semi, lc, tu]
    exact fin_same (rpRn'.tp.tp.gnd _)
theorem Sm_of {i : Int} (h : i.natAbs < 1000000000000000000000000000000000000000000000000000000000000) : Sm i ∧ (decI i).length ≤ 61 := by
  have hd : ∀ n : Nat, n < 1000000000000000000000000000000000000000000000000000000000000 → (dec n).length ≤ 60 := fun n hn => dec_len (by decide) (Nat.lt_of_lt_of_le hn (by decide))
  have hl : (decI i).length ≤ 61 := by
    cases i with
    | ofNat n => exact Nat.le_succ_of_le (hd n h)
    | negSucc n => exact Nat.succ_le_succ (hd (n + 1) h)
  refine ⟨⟨?_, by omega⟩, hl⟩
  by_cases h0 : i.natAbs = 0
  · rw [h0]; decide
  · have := (Nat.log2_lt h0 (k := 200)).mpr (Nat.lt_of_lt_of_le h (by decide))
    omega
theorem run4 {r : Rn} (h : RnOk r) : Sm4 r := by
  obtain ⟨h1, h2, h3, h4, h5, h6, h7, h8⟩ := h
  have s1 := Sm_of (i := r.1) (by omega)
  have s2 := Sm_of (i := r.2.1) (by omega)
  have s3 := Sm_of (i := r.2.2.1) (by omega)
  have s4 := Sm_of (i := r.2.2.2) (by rcases stp_cases h7 with e | e | e | e <;> rw [e] <;> decide)
  refine ⟨s1.1, s2.1, s3.1, s4.1, fun S => ?_, ?_⟩
  · have g := run_good (r := r) ⟨h1, h2, h3, h4, h5, h6, h7, h8⟩
    have := run_is (rnD r) g.1 S
    rw [g.2] at this
    exact this
  · have l1 := s1.2
    have l2 := s2.2
    have l3 := s3.2
    have l4 := s4.2
    show (ruL _ _ _ _).length < _
    rw [ruL_eq]
    simp only [List.length_append, List.length_cons, List.length_nil]
    omega
theorem laddr_txt (S : Sto) (a b : Int) (ha : a.natAbs.log2 < 1920) (hb : b.natAbs.log2 < 1920) (la : (decI a).length < 640) (lb : (decI b).length < 640) : F_law_address_text [.tup [.int a, .int b]] S = .ok (.str (tx (decI a ++ [46] ++ decI b))) S := by
  have x0 : ixD (.tup [.int a, .int b]) (.int 0) S = .ok (.int a) S := rfl
  have x1 : ixD (.tup [.int a, .int b]) (.int 1) S = .ok (.int b) S := rfl
  have a1 := tx_add (a := decI a) (b := [46]) S (by simp; omega)
  have a2 := tx_add (a := decI a ++ [46]) (b := decI b) S (by simp; omega)
  simp only [F_law_address_text, runD, b_law_address_text, go0, goS, x0, x1, strI_tx S a ha, strI_tx S b hb, s_dot, a1, a2]
  exact fin_same rfl
theorem lrun_txt (S : Sto) (s f l st : Int) (hs : Sm s) (hf : Sm f) (hl : Sm l) (ht : Sm st) : F_law_run_text [.tup [.int s, .int f, .int l, .int st]] S = .ok (.str (tx (ruL s f l st))) S := by
  have l1 := hs.2
  have l2 := hf.2
  have l3 := hl.2
  have l4 := ht.2
  have sa := laddr_txt S s f hs.1 hf.1 l1 l2
  have sl : slD (.tup [.int s, .int f, .int l, .int st]) none (some 2) S = .ok (.tup [.int s, .int f]) S := by
    rw [slD_tup]
    rfl
  have x2 : ixD (.tup [.int s, .int f, .int l, .int st]) (.int 2) S = .ok (.int l) S := rfl
  have x3 : ixD (.tup [.int s, .int f, .int l, .int st]) (.int 3) S = .ok (.int st) S := rfl
  have a1 := tx_add (a := decI s ++ [46] ++ decI f) (b := [32, 116, 111, 32]) S (by simp; omega)
  have a2 := tx_add (a := decI s ++ [46] ++ decI f ++ [32, 116, 111, 32]) (b := decI l) S (by simp; omega)
  have a3 := tx_add (a := decI s ++ [46] ++ decI f ++ [32, 116, 111, 32] ++ decI l) (b := [32, 98, 121, 32]) S (by simp; omega)
  have a4 := tx_add (a := decI s ++ [46] ++ decI f ++ [32, 116, 111, 32] ++ decI l ++ [32, 98, 121, 32]) (b := decI st) S (by simp; omega)
  have e : decI s ++ [46] ++ decI f ++ [32, 116, 111, 32] ++ decI l ++ [32, 98, 121, 32] ++ decI st = ruL s f l st := by
    simp [ruL, ruW, joinL, adL]
  rw [e] at a4
  simp only [F_law_run_text, runD, b_law_run_text, go0, goS, sl, sa, s_to, s_by, x2, x3, strI_tx S l hl.1, strI_tx S st ht.1, a1, a2, a3, a4]
  exact fin_same rfl
theorem lwalk_txt (S : Sto) (rs : List R4) (hr : ∀ r ∈ rs, Sm4 r) (hl : rs.length < 1000) : F_law_walk_text [tpD rD4 rs] S = .ok (.str (tx (wkL rs))) S := by
  have ne0 := rpR4.tp.ne (by decide) rs [] S
  have ne0' : eqD true (tpD rD4 rs) (.tup []) S = .ok (.bl (!decide (rs = []))) S := ne0
  cases rs with
  | nil =>
    have s_mi : Str.ofString "-" = tx [45] := s_minus
    simp only [F_law_walk_text, runD, b_law_walk_text, go0, goS, ne0', decide_true, Bool.not_true, Bool.false_eq_true, if_false, s_mi]
    exact fin_same rfl
  | cons r rs =>
    rw [decide_eq_false (by simp)] at ne0'
    have lc : nLc [1] (.nm 1) (iS (eVar 0)) tYesD (eFn F_law_run_text [(eVar 1)]) [some (tpD rD4 (r :: rs)), none] S = .ok (.lst ((r :: rs).map fun r => D.str (tx (ru4 r)))) S := by
      refine nLcS_tup (xs := (r :: rs).map rD4) rfl (by rw [List.length_map]; omega) ?_
      refine lc_all rD4 (fun r => D.str (tx (ru4 r))) (r :: rs) fun q hq => ⟨[some (tpD rD4 (r :: rs)), some (rD4 q)], rfl, ?_⟩
      have h := hr q hq
      have := lrun_txt S q.1 q.2.1 q.2.2.1 q.2.2.2 h.1 h.2.1 h.2.2.1 h.2.2.2.1
      simp only [goS]
      exact this
    have js := join_str S [44, 32] (ru4 r) (rs.map ru4) (by
      have : ∀ l : List R4, (∀ q ∈ l, Sm4 q) → ((l.map ru4).map List.length).sum ≤ l.length * 300 := by
        intro l
        induction l with
        | nil => exact fun _ => Nat.le_refl _
        | cons q l ih =>
          intro h
          have h1 := (h q List.mem_cons_self).2.2.2.2.2
          have h2 := ih fun x hx => h x (List.mem_cons_of_mem _ hx)
          rw [List.map_cons, List.map_cons, List.sum_cons, List.length_cons, Nat.succ_mul]
          omega
      have h1 := this (r :: rs) hr
      rw [List.map_cons] at h1
      have e2 : ((ru4 r) :: (rs.map ru4)).length = rs.length + 1 := by simp
      rw [e2]
      simp only [List.length_cons, List.length_nil] at h1 hl ⊢
      omega)
    rw [show ((ru4 r :: rs.map ru4).map fun l => D.str (tx l)) = (r :: rs).map fun r => D.str (tx (ru4 r)) by simp] at js
    simp only [F_law_walk_text, runD, b_law_walk_text, go0, goS, ne0', Bool.not_false, if_true, s_cm, lc, js]
    exact fin_same rfl
theorem lbook_txt (S : Sto) (ws : List (List R4)) (h : SmB ws) : F_law_book_text [tpD (tpD rD4) ws] S = .ok (.str (tx (bkL ws))) S := by
  have ne0 := rpR4.tp.tp.ne (by decide) ws [] S
  have ne0' : eqD true (tpD (tpD rD4) ws) (.tup []) S = .ok (.bl (!decide (ws = []))) S := ne0
  cases ws with
  | nil =>
    simp only [F_law_book_text, runD, b_law_book_text, go0, goS, ne0', decide_true, Bool.not_true, Bool.false_eq_true, if_false, s_nothing]
    exact fin_same rfl
  | cons w ws =>
    have hl : ws.length + 1 < 30 := h.1
    rw [decide_eq_false (by simp)] at ne0'
    have lc : nLc [1] (.nm 1) (iS (eVar 0)) tYesD (eFn F_law_walk_text [(eVar 1)]) [some (tpD (tpD rD4) (w :: ws)), none] S = .ok (.lst ((w :: ws).map fun r => D.str (tx (wkL r)))) S := by
      refine nLcS_tup (xs := (w :: ws).map (tpD rD4)) rfl (by rw [List.length_map, List.length_cons]; omega) ?_
      refine lc_all (tpD rD4) (fun r => D.str (tx (wkL r))) (w :: ws) fun q hq => ⟨[some (tpD (tpD rD4) (w :: ws)), some (tpD rD4 q)], rfl, ?_⟩
      have g := h.2 q hq
      have := lwalk_txt S q g.2 (by omega)
      simp only [goS]
      exact this
    have js := join_str S [59, 32] (wkL w) (ws.map wkL) (by
      have : ∀ l : List (List R4), (∀ q ∈ l, q.length < 30 ∧ ∀ r ∈ q, Sm4 r) → ((l.map wkL).map List.length).sum ≤ l.length * 10000 := by
        intro l
        induction l with
        | nil => exact fun _ => Nat.le_refl _
        | cons q l ih =>
          intro h
          have h1 := wk_small q (h q List.mem_cons_self).2 (h q List.mem_cons_self).1
          have h2 := ih fun x hx => h x (List.mem_cons_of_mem _ hx)
          rw [List.map_cons, List.map_cons, List.sum_cons, List.length_cons, Nat.succ_mul]
          omega
      have h1 := this (w :: ws) h.2
      rw [List.map_cons] at h1
      have e2 : ((wkL w) :: (ws.map wkL)).length = ws.length + 1 := by simp
      rw [e2]
      simp only [List.length_cons, List.length_nil] at h1 ⊢
      omega)
    rw [show ((wkL w :: ws.map wkL).map fun l => D.str (tx l)) = (w :: ws).map fun r => D.str (tx (wkL r)) by simp] at js
    simp only [F_law_book_text, runD, b_law_book_text, go0, goS, ne0', Bool.not_false, if_true, s_semi, lc, js]
    exact fin_same rfl
theorem splW_joinG (c : Nat) (sr : List Nat) (w : List Nat) (ws : List (List Nat)) (hc : ∀ x ∈ w :: ws, c ∉ x) (h8 : ∀ x ∈ joinL (c :: sr) (w :: ws), x < 256) (hs : ∀ x ∈ c :: sr, x < 256) : splW (c :: sr) (joinL (c :: sr) (w :: ws)) = w :: ws := by
  unfold splW
  rw [split_join c sr w ws hc h8 hs, List.map_map]
  have : ((fun x : Str => x.cps.toList) ∘ tx) = id := by
    funext l
    simp [tx]
  rw [this, List.map_id]
theorem allS_of' {α β : Type} {f : α → β} {p : β → Option α} : ∀ (rs : List α), (∀ r ∈ rs, p (f r) = some r) → allS ((rs.map f).map p) = some rs
  | [], _ => rfl
  | r :: rs, h => by
    rw [List.map_cons, List.map_cons, h r List.mem_cons_self]
    show (allS _).map _ = _
    rw [allS_of' rs fun x hx => h x (List.mem_cons_of_mem _ hx)]
    rfl
theorem dec_tx {i : Int} (h : i.natAbs < 1000000000000000000000000000000000000000000000000000000000000) : Tx 61 61 (decI i) := by
  have hl := (Sm_of h).2
  exact ⟨fun c hc => by have := decI_sign hc; omega, hl, (Run.of_len _).mono hl⟩
theorem ad_tx' {a b : Int} (h1 : a.natAbs < 1000000000000000000000000000000000000000000000000000000000000) (h2 : b.natAbs < 1000000000000000000000000000000000000000000000000000000000000) : Tx 123 61 (adL a b) := by
  have t1 := dec_tx h1
  have t2 := dec_tx h2
  refine ⟨fun c hc => ?_, ?_, ?_⟩
  · unfold adL at hc
    simp only [List.mem_append, List.mem_cons, List.not_mem_nil, or_false] at hc
    rcases hc with (hc | hc) | hc
    · exact t1.asc c hc
    · omega
    · exact t2.asc c hc
  · have l1 := t1.len
    have l2 := t2.len
    unfold adL
    simp only [List.length_append, List.length_cons, List.length_nil]
    omega
  · have := Run.sep t1.run t2.run (show ¬ Dgt 46 by decide)
    unfold adL
    rw [List.append_assoc]
    exact this
theorem rn_small {r : Rn} (h : RnOk r) : r.1.natAbs < 1000000000000000000000000000000000000000000000000000000000000 ∧ r.2.1.natAbs < 1000000000000000000000000000000000000000000000000000000000000 ∧ r.2.2.1.natAbs < 1000000000000000000000000000000000000000000000000000000000000 ∧ r.2.2.2.natAbs < 1000000000000000000000000000000000000000000000000000000000000 := by
  obtain ⟨h1, h2, h3, h4, h5, h6, h7, h8⟩ := h
  exact ⟨by omega, by omega, by omega, by rcases stp_cases h7 with e | e | e | e <;> rw [e] <;> decide⟩
theorem tx_joinG {m k : Nat} {sep : List Nat} (hs : ∀ c ∈ sep, c < 256 ∧ ¬ Dgt c) (hne : sep ≠ []) (ws : List (List Nat)) (h : ∀ w ∈ ws, Tx m k w) : Tx (ws.length * (m + sep.length)) k (joinL sep ws) := ⟨fun c hc => by
    rcases join_mem sep ws c hc with h1 | ⟨w, hw, h1⟩
    · exact (hs c h1).1
    · exact (h w hw).asc c h1, join_bound sep m ws fun w hw => (h w hw).len, Run.join (fun c hc => (hs c hc).2) hne ws fun w hw => (h w hw).run⟩
theorem ru_tx {r : Rn} (h : RnOk r) : Tx 700 61 (ru4 r) := by
  obtain ⟨h1, h2, h3, h4⟩ := rn_small h
  have := tx_joinG (m := 123) (k := 61) (sep := [32]) (by decide) (by simp) (ruW r.1 r.2.1 r.2.2.1 r.2.2.2) (fun w hw => by
    simp only [ruW, List.mem_cons, List.not_mem_nil, or_false] at hw
    rcases hw with rfl | rfl | rfl | rfl | rfl
    · exact ad_tx' h1 h2
    · exact ⟨by decide, by decide, Run.none (by decide)⟩
    · exact (dec_tx h3).mono (by decide) (Nat.le_refl _)
    · exact ⟨by decide, by decide, Run.none (by decide)⟩
    · exact (dec_tx h4).mono (by decide) (Nat.le_refl _))
  exact this.mono (by show 5 * (123 + 1) ≤ 700; decide) (Nat.le_refl _)
theorem wk_tx {w : List Rn} (hl : w.length ≤ 5) (h : ∀ r ∈ w, RnOk r) : Tx 3600 61 (wkL w) := by
  cases w with
  | nil => exact ⟨by decide, by decide, Run.none (by decide)⟩
  | cons r w =>
    have := tx_joinG (m := 700) (k := 61) (sep := [44, 32]) (by decide) (by simp) ((r :: w).map ru4) (fun x hx => by
      obtain ⟨q, hq, rfl⟩ := List.mem_map.mp hx
      exact ru_tx (h q hq))
    refine this.mono ?_ (Nat.le_refl _)
    rw [List.length_map]
    have : (r :: w).length * (700 + [44, 32].length) ≤ 5 * 702 := Nat.mul_le_mul hl (Nat.le_refl _)
    omega
theorem bk_tx {ws : List (List Rn)} (hl : ws.length ≤ 4) (h : ∀ w ∈ ws, w.length ≤ 5 ∧ ∀ r ∈ w, RnOk r) : Tx 15000 61 (bkL ws) := by
  cases ws with
  | nil => exact ⟨by decide, by decide, Run.none (by decide)⟩
  | cons r w =>
    have := tx_joinG (m := 3600) (k := 61) (sep := [59, 32]) (by decide) (by simp) ((r :: w).map wkL) (fun x hx => by
      obtain ⟨q, hq, rfl⟩ := List.mem_map.mp hx
      exact wk_tx (h q hq).1 (h q hq).2)
    refine this.mono ?_ (Nat.le_refl _)
    rw [List.length_map]
    have : (r :: w).length * (3600 + [59, 32].length) ≤ 4 * 3602 := Nat.mul_le_mul hl (Nat.le_refl _)
    omega
theorem exO_inj {α : Type} {f : α → D} {n : Nat} (hf : Rp f n) {S : Sto} {o : Option α} {x : α} (h : (Res.ok (f x) S : Res D) = exO "NoText" S o f) : o = some x := by
  cases o with
  | none => cases h
  | some y =>
    rw [exO_some] at h
    injection h with h1
    have := (hf.eqv x y).mp (by rw [h1]; exact (hf.eqv y y).mpr rfl)
    rw [this]
theorem run_of {r : Rn} (h : RnOk r) : runP (ru4 r) = some r := by
  obtain ⟨h1, h2, h3, h4⟩ := rn_small h
  obtain ⟨g1, g2⟩ := run_good h
  have ir := run_is (rnD r) g1 []
  rw [g2] at ir
  have a := run_in [] r.1 r.2.1 r.2.2.1 r.2.2.2 (Sm_of h1).1 (Sm_of h2).1 (Sm_of h3).1 (Sm_of h4).1 ir
  have b := run_any [] (ru_tx h) (by decide) (by decide)
  have a : Frun_in [.str (tx (ru4 r))] [] = .ok (rnD r) [] := a
  rw [a] at b
  exact exO_inj rpRn' b
theorem walk_of {w : List Rn} (h : ∀ r ∈ w, RnOk r) : walkP (wkL w) = some w := by
  unfold walkP
  cases w with
  | nil => exact if_pos rfl
  | cons r w =>
    rw [if_neg (wkL_ne r w)]
    have : splW [44, 32] (wkL (r :: w)) = (r :: w).map ru4 := splW_joinG 44 [32] (ru4 r) (w.map ru4) (fun x hx => by
      have hx : x ∈ (r :: w).map ru4 := hx
      obtain ⟨q, _, rfl⟩ := List.mem_map.mp hx
      exact ru4_no q 44 (.inl rfl)) (wkL_asc (r :: w)) (by decide)
    rw [this]
    exact allS_of' (r :: w) fun q hq => run_of (h q hq)
theorem book_of {ws : List (List Rn)} (h : ∀ w ∈ ws, ∀ r ∈ w, RnOk r) : bookP (bkL ws) = some ws := by
  unfold bookP
  cases ws with
  | nil => exact if_pos rfl
  | cons r w =>
    rw [if_neg (bkL_ne r w)]
    have : splW [59, 32] (bkL (r :: w)) = (r :: w).map wkL := splW_joinG 59 [32] (wkL r) (w.map wkL) (fun x hx => by
      have hx : x ∈ (r :: w).map wkL := hx
      obtain ⟨q, _, rfl⟩ := List.mem_map.mp hx
      exact wkL_no q) (bkL_asc (r :: w)) (by decide)
    rw [this]
    exact allS_of' (r :: w) fun q hq => walk_of (h q hq)
noncomputable def adOk (p : Int × Int) : Prop := (0 ≤ p.1 ∧ p.1 < 31) ∧ (1 ≤ p.2 ∧ p.2 < 596216567187872108348956733961803993281)
noncomputable instance (p : Int × Int) : Decidable (adOk p) := by unfold adOk; infer_instance
noncomputable def adP (l : List Nat) : Option (Int × Int) := match pairP 46 l with
  | none => none
  | some p => if adOk p then some p else none
theorem adP_of {a b : Int} (h1 : a.natAbs < 1000000000000000000000000000000000000000000000000000000000000) (h2 : b.natAbs < 1000000000000000000000000000000000000000000000000000000000000) (h : adOk (a, b)) : adP (adL a b) = some (a, b) := by
  have p1 := pair_ok [] a b 46 (by decide) (by decide) (by have := (Sm_of h1).2; omega) (by have := (Sm_of h2).2; omega)
  have p2 := pair_anyO [] (ad_tx' h1 h2) (by decide) (by decide) 46
  have p1 : Fpair_in [.str (tx (adL a b)), .str (tx [46])] [] = .ok (rowD (a, b)) [] := p1
  rw [p1] at p2
  have e := exO_inj rpRow p2
  unfold adP
  rw [e]
  exact if_pos h
theorem address_iff (p : Int × Int) (S : Sto) : Fis_address [rowD p] S = .ok (.bl (decide (adOk p))) S := by
  obtain ⟨a, b⟩ := p
  have w1 : ∀ i : Int, Fis_whole [.int i] S = .ok (.bl true) S := fun i => whole_is (.int i) rfl S
  have x0 : ixD (rowD (a, b)) (.int 0) S = .ok (.int a) S := rfl
  have x1 : ixD (rowD (a, b)) (.int 1) S = .ok (.int b) S := rfl
  have st : Fis_street [.int a] S = .ok (.bl (decide (0 ≤ a ∧ a < 31))) S := by
    by_cases h0 : 0 ≤ a
    · simp only [Fis_street, runD, bis_street, go0, goS, w1, leD_i, h0, decide_true, if_true, ltD_i, true_and]
      exact fin_same rfl
    · simp only [Fis_street, runD, bis_street, go0, goS, w1, leD_i, h0, decide_false, Bool.false_eq_true, if_false, false_and, if_true]
      exact fin_same rfl
  have ho : Fis_house [.int b] S = .ok (.bl (decide (1 ≤ b ∧ b < 596216567187872108348956733961803993281))) S := by
    have e : (b ≤ 596216567187872108348956733961803993280) = (b < 596216567187872108348956733961803993281) := propext ⟨fun h => by omega, fun h => by omega⟩
    by_cases h0 : 1 ≤ b
    · simp only [Fis_house, runD, bis_house, go0, goS, w1, leD_i, h0, decide_true, if_true, true_and, e]
      exact fin_same rfl
    · simp only [Fis_house, runD, bis_house, go0, goS, w1, leD_i, h0, decide_false, Bool.false_eq_true, if_false, false_and, if_true]
      exact fin_same rfl
  have it : isD "tuple" (rowD (a, b)) S = .ok (.bl true) S := rfl
  have ln : lenD [rowD (a, b)] S = .ok (.int 2) S := rfl
  have e2 : eqD false (.int 2) (.int 2) S = .ok (.bl true) S := by rw [eqD_int]; rfl
  by_cases h1 : 0 ≤ a ∧ a < 31
  · rw [decide_eq_true h1] at st
    have : decide (adOk (a, b)) = decide (1 ≤ b ∧ b < 596216567187872108348956733961803993281) := by
      unfold adOk
      simp only [h1, true_and, and_self]
    rw [this]
    simp only [Fis_address, runD, bis_address, go0, goS, it, if_true, ln, e2, x0, st, x1, ho]
    exact fin_same rfl
  · rw [decide_eq_false h1] at st
    rw [decide_eq_false (show ¬ adOk (a, b) from fun z => h1 z.1)]
    simp only [Fis_address, runD, bis_address, go0, goS, it, if_true, ln, e2, x0, st, Bool.false_eq_true, if_false]
    exact fin_same rfl
theorem addr_any (S : Sto) {n k : Nat} {l : List Nat} (h : Tx n k l) (hn : n < 900000) (hk : k < 600) : Faddress_in [.str (tx l)] S = exO "NoText" S (adP l) rowD := by
  have q := pair_anyO S h hn hk 46
  have my := must_ok S
  have mn := must_no S
  unfold adP
  cases e : pairP 46 l with
  | none =>
    rw [e, exO_none] at q
    simp only [Faddress_in, runD, baddress_in, go0, goS, s_dot, q, stm_exc, seq_exc]
    exact exc_same
  | some p =>
    rw [e, exO_some] at q
    have ad := address_iff p S
    show _ = exO "NoText" S (if adOk p then some p else none) rowD
    by_cases e2 : adOk p
    · rw [decide_eq_true e2] at ad
      rw [if_pos e2]
      simp only [Faddress_in, runD, baddress_in, go0, goS, s_dot, q, ad, my]
      exact fin_same (rpRow.gnd _)
    · rw [decide_eq_false e2] at ad
      rw [if_neg e2]
      simp only [Faddress_in, runD, baddress_in, go0, goS, s_dot, q, ad, mn, bind_exc, stm_exc, seq_exc]
      exact exc_same
noncomputable def oN {α : Type} (f : α → D) : Option α → D
  | none => .str "NoText"
  | some a => f a
noncomputable def wantK (k : Nat) (l : List Nat) : D := match k with
  | 0 => oN rowD (adP l)
  | 1 => oN rnD (runP l)
  | 2 => oN (tpD rnD) (walkP l)
  | _ => oN (tpD (tpD rnD)) (bookP l)
theorem oX_is {α : Type} (f : α → D) (hf : ∀ x, (f x).isN = false) (o : Option α) (S : Sto) : isND false (oX f o) S = .ok (.bl o.isNone) S := by
  cases o with
  | none => rfl
  | some x => rw [isND_ap]; exact congrArg (fun b => Res.ok (D.bl b) S) (hf x)
theorem s_46 : Str.ofString "." = tx [46] := by decide +kernel
theorem wanted0 (S : Sto) {n k : Nat} {l : List Nat} (h : Tx n k l) (hn : n < 900000) (hk : k < 600) : F_law_wanted [.int 0, .str (tx l)] S = .ok (wantK 0 l) S := by
  have q := pair_law S h hn hk 46
  have e0 : eqD false (.int 0) (.int 0) S = .ok (.bl true) S := by rw [eqD_int]; rfl
  show _ = Res.ok (oN rowD (adP l)) S
  unfold adP
  cases e : pairP 46 l with
  | none =>
    rw [e] at q
    have q : F_law_pair_in [.str (tx l), .str (tx [46])] S = .ok .non S := q
    have n1 : isND true .non S = .ok (.bl false) S := rfl
    have n2 : isND false .non S = .ok (.bl true) S := rfl
    simp only [F_law_wanted, runD, b_law_wanted, go0, goS, e0, if_true, s_46, q, n1, n2, Bool.false_eq_true, if_false]
    exact fin_same rfl
  | some p =>
    rw [e] at q
    have q : F_law_pair_in [.str (tx l), .str (tx [46])] S = .ok (rowD p) S := q
    have n1 : isND true (rowD p) S = .ok (.bl true) S := rfl
    have n2 : isND false (rowD p) S = .ok (.bl false) S := rfl
    have n3 : isND false .non S = .ok (.bl true) S := rfl
    have x0 : ixD (rowD p) (.int 0) S = .ok (.int p.1) S := rfl
    have x1 : ixD (rowD p) (.int 1) S = .ok (.int p.2) S := rfl
    show _ = Res.ok (oN rowD (if adOk p then some p else none)) S
    by_cases h1 : 0 ≤ p.1
    · by_cases h2 : p.1 < 31
      · by_cases h3 : 1 ≤ p.2
        · by_cases h4 : p.2 < 596216567187872108348956733961803993281
          · rw [if_pos (show adOk p from ⟨⟨h1, h2⟩, h3, h4⟩)]
            simp only [F_law_wanted, runD, b_law_wanted, go0, goS, e0, if_true, s_46, q, n1, n2, x0, x1, leD_i, ltD_i, h1, h2, h3, h4, p31, decide_true, Bool.not_true, Bool.false_eq_true, if_false]
            exact fin_same (rpRow.gnd _)
          · rw [if_neg (show ¬ adOk p from fun z => h4 z.2.2)]
            simp only [F_law_wanted, runD, b_law_wanted, go0, goS, e0, if_true, s_46, q, n1, n2, n3, x0, x1, leD_i, ltD_i, h1, h2, h3, h4, p31, decide_true, decide_false, Bool.not_true, Bool.not_false, Bool.false_eq_true, if_false]
            exact fin_same rfl
        · rw [if_neg (show ¬ adOk p from fun z => h3 z.2.1)]
          simp only [F_law_wanted, runD, b_law_wanted, go0, goS, e0, if_true, s_46, q, n1, n2, n3, x0, x1, leD_i, ltD_i, h1, h2, h3, p31, decide_true, decide_false, Bool.not_true, Bool.not_false, Bool.false_eq_true, if_false]
          exact fin_same rfl
      · rw [if_neg (show ¬ adOk p from fun z => h2 z.1.2)]
        simp only [F_law_wanted, runD, b_law_wanted, go0, goS, e0, if_true, s_46, q, n1, n2, n3, x0, x1, leD_i, ltD_i, h1, h2, p31, decide_true, decide_false, Bool.not_true, Bool.not_false, Bool.false_eq_true, if_false]
        exact fin_same rfl
    · rw [if_neg (show ¬ adOk p from fun z => h1 z.1.1)]
      simp only [F_law_wanted, runD, b_law_wanted, go0, goS, e0, if_true, s_46, q, n1, n2, n3, x0, x1, leD_i, ltD_i, h1, p31, decide_true, decide_false, Bool.not_true, Bool.not_false, Bool.false_eq_true, if_false]
      exact fin_same rfl
theorem sel_ap {f : Ev D} {F0 F1 F : List D → Sto → Res D} {fs : List (Ev D)} {e : En} {S S1 : Sto} {i : Int} (hf : f e S = .ok (.int i) S1) (hi : atI [F0, F1] i = some F) : eSel f F0 F1 fs e S = (eArgs fs e S1).bind F := by
  unfold eSel
  rw [hf, Res.bind_ok]
  simp only [hi]
theorem wanted1 (S : Sto) {n k : Nat} {l : List Nat} (h : Tx n k l) (hn : n < 900000) (hk : k < 600) : F_law_wanted [.int 1, .str (tx l)] S = .ok (wantK 1 l) S := by
  have q := run_law S h hn hk
  have e0 : eqD false (.int 1) (.int 0) S = .ok (.bl false) S := by rw [eqD_int]; rfl
  have e1 : eqD false (.int 1) (.int 1) S = .ok (.bl true) S := by rw [eqD_int]; rfl
  show _ = Res.ok (oN rnD (runP l)) S
  have n1 := oX_is rnD (fun _ => rfl) (runP l) S
  cases e : runP l with
  | none =>
    rw [e] at q n1
    simp only [F_law_wanted, runD, b_law_wanted, go0, goS, e0, e1, if_true, Bool.false_eq_true, if_false, q, n1, Option.isNone_none]
    exact fin_same rfl
  | some x =>
    rw [e] at q n1
    simp only [F_law_wanted, runD, b_law_wanted, go0, goS, e0, e1, if_true, Bool.false_eq_true, if_false, q, n1, Option.isNone_some]
    exact fin_same rfl
theorem wanted2 (S : Sto) {n k : Nat} {l : List Nat} (h : Tx n k l) (hn : n < 900000) (hk : k < 600) : F_law_wanted [.int 2, .str (tx l)] S = .ok (wantK 2 l) S := by
  have q := walk_law S h hn hk
  have e0 : eqD false (.int 2) (.int 0) S = .ok (.bl false) S := by rw [eqD_int]; rfl
  have e1 : eqD false (.int 2) (.int 1) S = .ok (.bl false) S := by rw [eqD_int]; rfl
  have se := sel_ap (F0 := F_law_walk_in) (F1 := F_law_book_in) (F := F_law_walk_in) (fs := [(eVar 1)]) (f := e2 subD (eVar 0) (eC (.int 2))) (e := [some (.int 2), some (.str (tx l)), some .non]) (S := S) (S1 := S) (i := 0) rfl rfl
  have se : eSel (e2 subD (eVar 0) (eC (.int 2))) F_law_walk_in F_law_book_in [(eVar 1)] [some (.int 2), some (.str (tx l)), some .non] S = .ok (oX (tpD rnD) (walkP l)) S := by
    rw [se]
    simp only [goS, q]
  show _ = Res.ok (oN (tpD rnD) (walkP l)) S
  have n1 := oX_is (tpD rnD) (fun _ => rfl) (walkP l) S
  cases e : walkP l with
  | none =>
    rw [e] at se n1
    simp only [F_law_wanted, runD, b_law_wanted, go0, goS, e0, e1, if_true, Bool.false_eq_true, if_false, se, n1, Option.isNone_none]
    exact fin_same rfl
  | some x =>
    rw [e] at se n1
    simp only [F_law_wanted, runD, b_law_wanted, go0, goS, e0, e1, if_true, Bool.false_eq_true, if_false, se, n1, Option.isNone_some]
    exact fin_same (rpRn'.tp.gnd _)
theorem wanted3 (S : Sto) {n k : Nat} {l : List Nat} (h : Tx n k l) (hn : n < 900000) (hk : k < 600) : F_law_wanted [.int 3, .str (tx l)] S = .ok (wantK 3 l) S := by
  have q := book_law S h hn hk
  have e0 : eqD false (.int 3) (.int 0) S = .ok (.bl false) S := by rw [eqD_int]; rfl
  have e1 : eqD false (.int 3) (.int 1) S = .ok (.bl false) S := by rw [eqD_int]; rfl
  have se := sel_ap (F0 := F_law_walk_in) (F1 := F_law_book_in) (F := F_law_book_in) (fs := [(eVar 1)]) (f := e2 subD (eVar 0) (eC (.int 2))) (e := [some (.int 3), some (.str (tx l)), some .non]) (S := S) (S1 := S) (i := 1) rfl rfl
  have se : eSel (e2 subD (eVar 0) (eC (.int 2))) F_law_walk_in F_law_book_in [(eVar 1)] [some (.int 3), some (.str (tx l)), some .non] S = .ok (oX (tpD (tpD rnD)) (bookP l)) S := by
    rw [se]
    simp only [goS, q]
  show _ = Res.ok (oN (tpD (tpD rnD)) (bookP l)) S
  have n1 := oX_is (tpD (tpD rnD)) (fun _ => rfl) (bookP l) S
  cases e : bookP l with
  | none =>
    rw [e] at se n1
    simp only [F_law_wanted, runD, b_law_wanted, go0, goS, e0, e1, if_true, Bool.false_eq_true, if_false, se, n1, Option.isNone_none]
    exact fin_same rfl
  | some x =>
    rw [e] at se n1
    simp only [F_law_wanted, runD, b_law_wanted, go0, goS, e0, e1, if_true, Bool.false_eq_true, if_false, se, n1, Option.isNone_some]
    exact fin_same (rpRn'.tp.tp.gnd _)
noncomputable def rdB : Stm := (sSeq (sIf (eTB (e2 (eqD false) (eVar 0) (eC (.int 0)))) (sRet (eFn Fread_address [(eVar 1)])) sNext)
    (sSeq (sIf (eTB (e2 (eqD false) (eVar 0) (eC (.int 1)))) (sRet (eFn Fread_run [(eVar 1)])) sNext)
    (sSeq (sIf (eTB (e2 (eqD false) (eVar 0) (eC (.int 2)))) (sRet (eFn Fread_walk [(eVar 1)])) sNext)
    (sRet (eFn Fread_book [(eVar 1)])))))
theorem read_eq : b_law_read = sTry [("NoText", true)] 2 rdB (fun _ => (sRet (eC (.str "NoText")))) := rfl
noncomputable def rdF (i : Int) : List D → Sto → Res D := if i = 0 then Fread_address else if i = 1 then Fread_run else if i = 2 then Fread_walk else Fread_book
theorem rdB_ap (i : Int) (d : D) (S : Sto) : rdB [some (.int i), some d, none] S = (rdF i [d] S).stm [some (.int i), some d, none] fun d S => .ret d S := by
  have e : ∀ j : Int, eqD false (.int i) (.int j) S = .ok (.bl (decide (i = j))) S := fun j => eqD_int
  unfold rdF
  by_cases h0 : i = 0
  · subst h0
    simp only [rdB, goS, e, decide_true, if_true]
    cases Fread_address [d] S <;> rfl
  · by_cases h1 : i = 1
    · subst h1
      simp only [rdB, goS, e, h0, decide_true, decide_false, if_true, Bool.false_eq_true, if_false]
      cases Fread_run [d] S <;> rfl
    · by_cases h2 : i = 2
      · subst h2
        simp only [rdB, goS, e, h0, h1, decide_true, decide_false, if_true, Bool.false_eq_true, if_false]
        cases Fread_walk [d] S <;> rfl
      · simp only [rdB, goS, e, h0, h1, h2, decide_false, Bool.false_eq_true, if_false]
theorem law_read_ok (i : Int) (d v : D) (S : Sto) (h : rdF i [d] S = .ok v S) (hg : v.gnd = true) : F_law_read [.int i, d] S = .ok v S := by
  have tr := try_ret (ks := [("NoText", true)]) (i := 2) (u := rdB) (hd := fun _ => sRet (eC (.str "NoText"))) (e := [some (.int i), some d, none]) (S := S) (S1 := S) (d := v) (by rw [rdB_ap, h]; rfl)
  show retD .frz S (b_law_read [some (.int i), some d, none] S) = _
  rw [read_eq, tr, retD_ret]
  exact fin_same hg
theorem law_read_no (i : Int) (d : D) (S : Sto) (h : rdF i [d] S = .exc "NoText" S) : F_law_read [.int i, d] S = .ok (.str "NoText") S := by
  have tg := try_got (ks := [("NoText", true)]) (i := 2) (u := rdB) (hd := fun _ => sRet (eC (.str "NoText"))) (e := [some (.int i), some d, none]) (e1 := [some (.int i), some d, none]) (S := S) (S1 := S) (S2 := S) (c := "NoText") (d := .str "NoText") (by rw [rdB_ap, h]; rfl) rfl rfl (by simp only [goS])
  show retD .frz S (b_law_read [some (.int i), some d, none] S) = _
  rw [read_eq, tg, retD_ret]
  exact fin_same rfl
theorem law_read_O {α : Type} {f : α → D} {n : Nat} (hf : Rp f n) (i : Int) (d : D) (o : Option α) (S : Sto) (h : rdF i [d] S = exO "NoText" S o f) : F_law_read [.int i, d] S = .ok (oN f o) S := by
  cases o with
  | none => exact law_read_no i d S h
  | some x => exact law_read_ok i d (f x) S h (hf.gnd x)
theorem read_K (S : Sto) {n k : Nat} {l : List Nat} (h : Tx n k l) (hn : n < 900000) (hk : k < 600) {i : Nat} (hi : i < 4) : F_law_read [.int (i : Nat), .str (tx l)] S = .ok (wantK i l) S := by
  have tok := text_ok S (tx l)
  have c : i = 0 ∨ i = 1 ∨ i = 2 ∨ i = 3 := by omega
  rcases c with rfl | rfl | rfl | rfl
  · refine law_read_O rpRow 0 _ (adP l) S ?_
    have q := addr_any S h hn hk
    show Fread_address _ S = _
    cases e : adP l with
    | none =>
      rw [e, exO_none] at q
      simp only [Fread_address, runD, bread_address, go0, goS, tok, q, stm_exc, seq_exc]
      exact exc_same
    | some x =>
      rw [e, exO_some] at q
      simp only [Fread_address, runD, bread_address, go0, goS, tok, q]
      exact fin_same (rpRow.gnd _)
  · refine law_read_O rpRn' 1 _ (runP l) S ?_
    have q := run_any S h hn hk
    show Fread_run _ S = _
    cases e : runP l with
    | none =>
      rw [e, exO_none] at q
      simp only [Fread_run, runD, bread_run, go0, goS, tok, q, stm_exc, seq_exc]
      exact exc_same
    | some x =>
      rw [e, exO_some] at q
      simp only [Fread_run, runD, bread_run, go0, goS, tok, q]
      exact fin_same (rpRn'.gnd _)
  · refine law_read_O rpRn'.tp 2 _ (walkP l) S ?_
    have q := walk_any S h hn hk
    show Fread_walk _ S = _
    cases e : walkP l with
    | none =>
      rw [e, exO_none] at q
      simp only [Fread_walk, runD, bread_walk, go0, goS, tok, q, stm_exc, seq_exc]
      exact exc_same
    | some x =>
      rw [e, exO_some] at q
      simp only [Fread_walk, runD, bread_walk, go0, goS, tok, q]
      exact fin_same (rpRn'.tp.gnd _)
  · exact law_read_O rpRn'.tp.tp 3 _ (bookP l) S (book_any S h hn hk)
theorem read_odd (S : Sto) (d : D) (h : isD "str" d S = .ok (.bl false) S) {i : Nat} (hi : i < 4) : F_law_read [.int (i : Nat), d] S = .ok (.str "NoText") S := by
  have mn := must_no S
  have mt : Fmust_be_text [d] S = .exc "NoText" S := by
    simp only [Fmust_be_text, runD, bmust_be_text, go0, goS, h, mn, bind_exc, stm_exc]
    exact exc_same
  refine law_read_no _ d S ?_
  have c : i = 0 ∨ i = 1 ∨ i = 2 ∨ i = 3 := by omega
  rcases c with rfl | rfl | rfl | rfl
  · show Fread_address _ S = _
    simp only [Fread_address, runD, bread_address, go0, goS, mt, bind_exc, stm_exc, seq_exc]
    exact exc_same
  · show Fread_run _ S = _
    simp only [Fread_run, runD, bread_run, go0, goS, mt, bind_exc, stm_exc, seq_exc]
    exact exc_same
  · show Fread_walk _ S = _
    simp only [Fread_walk, runD, bread_walk, go0, goS, mt, bind_exc, stm_exc, seq_exc]
    exact exc_same
  · show Fread_book _ S = _
    simp only [Fread_book, runD, bread_book, go0, goS, mt, bind_exc, stm_exc, seq_exc]
    exact exc_same
theorem wanted_K (S : Sto) {n k : Nat} {l : List Nat} (h : Tx n k l) (hn : n < 900000) (hk : k < 600) {i : Nat} (hi : i < 4) : F_law_wanted [.int (i : Nat), .str (tx l)] S = .ok (wantK i l) S := by
  have c : i = 0 ∨ i = 1 ∨ i = 2 ∨ i = 3 := by omega
  rcases c with rfl | rfl | rfl | rfl
  · exact wanted0 S h hn hk
  · exact wanted1 S h hn hk
  · exact wanted2 S h hn hk
  · exact wanted3 S h hn hk
theorem ly_oN {α : Type} {f : α → D} {n : Nat} (hf : Rp f n) (o : Option α) : Ly n (oN f o) := by
  cases o with
  | none => exact .str (by decide +kernel) _
  | some x => exact ⟨hf.lay x, hf.dep x, hf.flat x⟩
theorem ly_want (k : Nat) (l : List Nat) : Ly 5 (wantK k l) := by
  match k with
  | 0 => exact (ly_oN rpRow (adP l)).up (by decide)
  | 1 => exact (ly_oN rpRn' (runP l)).up (by decide)
  | 2 => exact (ly_oN rpRn'.tp (walkP l)).up (by decide)
  | k + 3 => exact (ly_oN rpRn'.tp.tp (bookP l)).up (by decide)
noncomputable def sgA : List Nat := [48, 49, 50, 51, 52, 53, 54, 55, 56, 57, 45, 46, 44, 58, 59, 32, 120, 116, 111, 98, 121, 104, 108, 102, 114, 119, 97, 100, 110, 101, 95, 43]
noncomputable def sgB : List Nat := [32, 33, 34, 35, 36, 38, 39, 40, 41, 42, 47, 60, 61, 62, 63, 64, 65, 66, 67, 68, 69, 70, 71, 72, 73, 74, 75, 76, 77, 78, 79, 80, 81, 82, 83, 84, 85, 86, 87, 88, 89, 90, 91, 92, 93, 94, 96, 99, 103, 105, 106, 107, 109, 112, 113, 115, 117, 118, 122, 123, 124, 125, 126]
theorem s_sgA : Str.ofString "0123456789-.,:; xtobyhlfrwadne_+" = tx sgA := by decide +kernel
theorem s_sgB : Str.ofString " !\"#$&'()*/<=>?@ABCDEFGHIJKLMNOPQRSTUVWXYZ[\\]^`cgijkmpqsuvz{|}~" = tx sgB := by decide +kernel
noncomputable def bent (l : List Nat) (s c w : Nat) : List Nat := l.take s ++ (if w < 2 then [c] else []) ++ l.drop (s + if 0 < w then 1 else 0)
theorem bent_tx {n k : Nat} {l : List Nat} (h : Tx n k l) {c : Nat} (hc : c < 256) (s w : Nat) : Tx (2 * n + 1) (2 * k + 1) (bent l s c w) := by
  have h1 : Tx 1 1 (if w < 2 then [c] else []) := by
    split
    · exact Tx.one hc
    · exact Tx.nil
  exact (((h.take s).app h1).app (h.drop _)).mono (by omega) (by omega)
theorem small_log {n : Nat} (h0 : 0 < n) (h : n < 1048576) : (n : Int).natAbs.log2 < 9000 := by
  have : n.log2 < 20 := (Nat.log2_lt (by omega)).mpr h
  show n.log2 < 9000
  omega
theorem mul_one_tx (c : Nat) (w : Nat) (S : Sto) : mulSD (.str (tx [c])) (.int (if decide ((w : Int) < 2) = true then 1 else 0)) S = .ok (.str (tx (if w < 2 then [c] else []))) S := by
  by_cases h : w < 2
  · rw [decide_eq_true (show (w : Int) < 2 by omega), if_pos rfl, if_pos h]
    rfl
  · rw [decide_eq_false (show ¬ (w : Int) < 2 by omega), if_neg Bool.false_ne_true, if_neg h]
    rfl
theorem bend_rest {S T : Sto} {k : Nat} (hk : k < S.length) (hT : Pu' S k T) {n j : Nat} {l : List Nat} (h : Tx n j l) (hn : n < 400000) (x : D) {L : List Nat} (hL : ∀ c ∈ L, c < 256) (l0 : 0 < L.length) (l1 : L.length < 9000) :
    ∃ (l' : List Nat) (T' : Sto) (v4 v5 v6 : Option D), Tx (2 * n + 1) (2 * j + 1) l' ∧ Pu' S k T' ∧ (sSeq (sSet 4 (eFn F_law_draw [(eVar 0), (e2 addD (eCall lenD [(eVar 1)]) (eC (.int 1)))]))
    (sSeq (sSet 5 (e2 ixD (eVar 3) (eFn F_law_draw [(eVar 0), (eCall lenD [(eVar 3)])])))
    (sSeq (sSet 6 (eFn F_law_draw [(eVar 0), (eC (.int 3))]))
    (sSet 1 (e2 addD (e2 addD (eSl (eVar 1) pN (pE (eVar 4))) (e2 mulSD (eVar 5) (eCall int1D [(e2 ltD (eVar 6) (eC (.int 2)))]))) (eSl (eVar 1) (pE (e2 addD (eVar 4) (eCall int1D [(e2 gtD (eVar 6) (eC (.int 0)))]))) pN)))))) [some (.ref k), some (.str (tx l)), some x, some (.str (tx L)), none, none, none] T = .next [some (.ref k), some (.str (tx l')), some x, some (.str (tx L)), v4, v5, v6] T' := by
  have hl := h.len
  obtain ⟨s, T1, s0, s1, hT1, q1⟩ := drawI (many := ((l.length + 1 : Nat) : Int)) hk hT (by omega) (small_log (by omega) (by omega))
  obtain ⟨s, rfl⟩ : ∃ m : Nat, s = (m : Int) := ⟨s.toNat, by omega⟩
  obtain ⟨i, T2, i1, hT2, q2⟩ := drawN (many := L.length) hk hT1 l0 l1
  obtain ⟨w, T3, w1, hT3, q3⟩ := drawN (many := 3) hk hT2 (by decide) (by decide)
  have q3' : F_law_draw [.ref k, .int 3] T2 = .ok (.int (w : Nat)) T3 := q3
  have q1' : F_law_draw [.ref k, .int ((l.length : Int) + 1)] T = .ok (.int (s : Nat)) T1 := q1
  have n1 := tx_lenD (a := l) T (by omega)
  have n2 := tx_lenD (a := L) T1 (by omega)
  have ic := tx_ix (a := L) T2 (by omega) (j := (i : Nat)) (c := L[i]) (by rw [atI_cast, List.getElem?_eq_getElem i1])
  have hc : L[i] < 256 := hL _ (List.getElem_mem i1)
  have b1 : slD (.str (tx l)) none (some (s : Int)) T3 = .ok (.str (tx (l.take s))) T3 := by rw [tx_sl T3 (by omega), cut_to]
  have mu := mul_one_tx L[i] w T3
  have lt : ltD (.int (w : Nat)) (.int 2) T3 = .ok (.bl (decide ((w : Int) < 2))) T3 := ltD_i
  have gt : gtD (.int (w : Nat)) (.int 0) T3 = .ok (.bl (decide (0 < (w : Int)))) T3 := gtD_i
  have a1 := tx_add (a := l.take s) (b := if w < 2 then [L[i]] else []) T3 (by
    have := List.length_take_le s l
    split <;> simp only [List.length_cons, List.length_nil] <;> omega)
  have e2 : ((s : Int) + if decide (0 < (w : Int)) = true then 1 else 0) = ((s + if 0 < w then 1 else 0 : Nat) : Int) := by
    by_cases h : 0 < w
    · rw [decide_eq_true (show 0 < (w : Int) by omega), if_pos rfl, if_pos h]; rfl
    · rw [decide_eq_false (show ¬ 0 < (w : Int) by omega), if_neg Bool.false_ne_true, if_neg h]; omega
  have b2 : slD (.str (tx l)) (some ((s : Int) + if decide (0 < (w : Int)) = true then 1 else 0)) none T3 = .ok (.str (tx (l.drop (s + if 0 < w then 1 else 0)))) T3 := by rw [tx_sl T3 (by omega), e2, cut_from]
  have a2 := tx_add (a := l.take s ++ if w < 2 then [L[i]] else []) (b := l.drop (s + if 0 < w then 1 else 0)) T3 (by
    have := List.length_take_le s l
    rw [List.length_append, List.length_drop]
    split <;> simp only [List.length_cons, List.length_nil] <;> omega)
  refine ⟨bent l s L[i] w, T3, some (.int (s : Nat)), some (.str (tx [L[i]])), some (.int (w : Nat)), bent_tx h hc s w, hT3, ?_⟩
  simp only [goS, n1, addD_int, q1', n2, q2, ic, q3', b1, lt, int1_bl, mu, a1, gt, b2, a2]
  rfl
theorem bend_turn {S T : Sto} {k : Nat} (hk : k < S.length) (hT : Pu' S k T) {n j : Nat} {l : List Nat} (h : Tx n j l) (hn : n < 400000) (x : D) :
    ∃ (l' : List Nat) (T' : Sto), Tx (2 * n + 1) (2 * j + 1) l' ∧ Pu' S k T' ∧ turn [2, 3, 4, 5, 6] (.nm 2) b_law_bent_text_1 x [some (.ref k), some (.str (tx l)), none, none, none, none, none] T = .next [some (.ref k), some (.str (tx l')), none, none, none, none, none] T' := by
  obtain ⟨d, T1, d1, hT1, q1⟩ := drawN (many := 3) hk hT (by decide) (by decide)
  have q1' : F_law_draw [.ref k, .int 3] T = .ok (.int (d : Nat)) T1 := q1
  by_cases hd : (d : Int) = 1
  · have e : eqD false (.int (d : Nat)) (.int 1) T1 = .ok (.bl true) T1 := by rw [eqD_int, decide_eq_true hd]
    have a := tx_add (a := sgA) (b := sgB) T1 (by decide)
    obtain ⟨l', T', v4, v5, v6, g1, g2, g3⟩ := bend_rest hk hT1 h hn x (L := sgA ++ sgB) (by decide) (by decide) (by decide)
    refine ⟨l', T', g1, g2, ?_⟩
    rw [← s_sgA, ← s_sgB] at a
    simp only [turn, b_law_bent_text_1]
    simp only [goS, q1', e, if_true, a]
    simp only [goS] at g3
    simp only [g3]
    rfl
  · have e : eqD false (.int (d : Nat)) (.int 1) T1 = .ok (.bl false) T1 := by rw [eqD_int, decide_eq_false hd]
    obtain ⟨l', T', v4, v5, v6, g1, g2, g3⟩ := bend_rest hk hT1 h hn x (L := sgA) (by decide) (by decide) (by decide)
    refine ⟨l', T', g1, g2, ?_⟩
    rw [← s_sgA] at g3
    simp only [turn, b_law_bent_text_1]
    simp only [goS, q1', e, Bool.false_eq_true, if_false]
    simp only [goS] at g3
    simp only [g3]
    rfl
theorem bent_text {S T : Sto} {k : Nat} (hk : k < S.length) (hT : Pu' S k T) {n j : Nat} {l : List Nat} (h : Tx n j l) (hn : n < 100000) : ∃ (l' : List Nat) (T' : Sto), Tx (4 * n + 3) (4 * j + 3) l' ∧ Pu' S k T' ∧ F_law_bent_text [.ref k, .str (tx l)] T = .ok (.str (tx l')) T' := by
  obtain ⟨m, T1, hm, hT1, q1⟩ := drawN (many := 3) hk hT (by decide) (by decide)
  have q1' : F_law_draw [.ref k, .int 3] T = .ok (.int (m : Nat)) T1 := q1
  obtain ⟨e', T2, q, hI⟩ := for_inv0 (dead := [2, 3, 4, 5, 6]) (tg := .nm 2) (body := b_law_bent_text_1) (ys := rngD 0 (m : Int)) (xs := rngD 0 (m : Int)) (S := T1) (e := [some (.ref k), some (.str (tx l)), none, none, none, none, none])
    (fun i e S' => ∃ l' : List Nat, e = [some (.ref k), some (.str (tx l')), none, none, none, none, none] ∧ (i ≤ 2 → Tx (2 ^ i * n + (2 ^ i - 1)) (2 ^ i * j + (2 ^ i - 1)) l') ∧ Pu' S k S') ⟨l, rfl, fun _ => h.mono (by omega) (by omega), hT1⟩ (fun i e S' x hx ⟨l1, he, f1, f2⟩ => by
      subst he
      obtain ⟨_, hlt⟩ := rngD_get hx
      have hi : i = 0 ∨ i = 1 := by omega
      have f3 := f1 (by omega)
      obtain ⟨l', T', g1, g2, g3⟩ := bend_turn hk f2 f3 (by rcases hi with rfl | rfl <;> omega) x
      refine ⟨_, _, g3, l', rfl, fun _ => g1.mono ?_ ?_, g2⟩
      · rcases hi with rfl | rfl <;> omega
      · rcases hi with rfl | rfl <;> omega)
  obtain ⟨l', rfl, f1, f2⟩ := hI
  have ln : (rngD 0 (m : Int)).length = m := by rw [rngD_len]; omega
  rw [ln] at f1
  have f1 := f1 (by omega)
  have hm' : m = 0 ∨ m = 1 ∨ m = 2 := by omega
  refine ⟨l', T2, f1.mono (by rcases hm' with rfl | rfl | rfl <;> omega) (by rcases hm' with rfl | rfl | rfl <;> omega), f2, ?_⟩
  have ff : sFor [2, 3, 4, 5, 6] (.nm 2) (iR1 (eFn F_law_draw [(eVar 0), (eC (.int 3))])) b_law_bent_text_1 [some (.ref k), some (.str (tx l)), none, none, none, none, none] T = .next [some (.ref k), some (.str (tx l')), none, none, none, none, none] T2 := by
    rw [ap_For, ap_iR1]
    simp only [goS, q1', srcR1_ap]
    rw [if_pos (rg (n := m) (by omega)), Res.stm_ok]
    exact q
  simp only [F_law_bent_text, runD, b_law_bent_text, go0, goS, ff]
  exact fin_pu0 hk hT f2 rfl
theorem lc_dr {X : Sto} {k : Nat} {tg : Tg} {g : Ev D} {e : En} {ys : List D} {α : Type} (f : α → D) (P : α → Prop) : ∀ (xs : List D) (T : Sto), (∀ x ∈ xs, ∀ U, Pu' X k U → ∃ e1 a U', bindT tg x e = some e1 ∧ g e1 U = .ok (f a) U' ∧ P a ∧ Pu' X k U') → Pu' X k T → ∃ (as : List α) (T' : Sto), as.length = xs.length ∧ (∀ a ∈ as, P a) ∧ Pu' X k T' ∧ lcD tg (.tmp ys) tYesD g e xs T = .ok (as.map f) T'
  | [], T, _, hT => ⟨[], T, rfl, by simp, hT, by rw [lcD_nil, if_pos (show (Src.tmp ys).ok T from trivial)]; rfl⟩
  | x :: xs, T, one, hT => by
    obtain ⟨e1, a, T1, b1, g1, pa, hT1⟩ := one x List.mem_cons_self T hT
    obtain ⟨as, T2, h1, h2, h3, h4⟩ := lc_dr (ys := ys) f P xs T1 (fun y hy => one y (List.mem_cons_of_mem _ hy)) hT1
    refine ⟨a :: as, T2, by simp [h1], fun b hb => ?_, h3, ?_⟩
    · rcases List.mem_cons.mp hb with rfl | hb
      · exact pa
      · exact h2 b hb
    · rw [lcD_cons, if_pos (show (Src.tmp ys).ok T from trivial), b1]
      simp only [ap_yes, nox_ok, Res.bind_ok, if_true, g1, h4]
      rfl
theorem nLcR1t {vs : List Nat} {tg : Tg} {f g : Ev D} {e : En} {S S' : Sto} {ys : List D} {t : Ev Bool} {n : Nat} (hf : f e S = .ok (.int n) S) (hl : n < 1048576) (q : lcD tg (.tmp (rngD 0 n)) t g (wipeE e vs) (rngD 0 n) S = .ok ys S') : nLc vs tg (iR1 f) t g e S = .ok (.lst ys) S' := by
  rw [ap_Lc, ap_iR1, hf, Res.bind_ok, srcR1_ap, if_pos (rg hl), Res.bind_ok]
  simp only [Src.items_tmp]
  rw [if_pos (Nat.le_of_lt (sz (by simpa using hl))), q, Res.bind_ok]
noncomputable def lr1 : Stm := (sSet 2 (eFn F_law_purse [(eVar 0), (eVar 1)]))
noncomputable def lr2 : Stm := (sSet 3 (e2 (eqD false) (eFn F_law_draw [(eVar 2), (eC (.int 2))]) (eC (.int 1))))
noncomputable def lr3 : Stm := (sSet 4 (eFn F_law_run [(eVar 2), (eC (.int 31)), (eVar 3)]))
noncomputable def lr4 : Stm := (sSet 5 (eFn F_law_walks [(eVar 2), (eVar 3)]))
noncomputable def lr5 : Stm := (sSet 6 (e2 ixD (e2 addD (eVar 5) (eTup [(eTup [(eVar 4)])])) (eFn F_law_draw [(eVar 2), (e2 addD (eCall lenD [(eVar 5)]) (eC (.int 1)))])))
noncomputable def lr6 : Stm := (sSet 7 (eAno (nLst [(eSl (eVar 4) pN (pE (eC (.int 2)))), (eVar 4), (eVar 6), (eVar 5)])))
noncomputable def lr7 : Stm := (sSet 8 (eAno (nLst [(eFn F_law_address_text [(eSl (eVar 4) pN (pE (eC (.int 2))))]), (eFn F_law_run_text [(eVar 4)]), (eFn F_law_walk_text [(eVar 6)]), (eFn F_law_book_text [(eVar 5)])])))
noncomputable def lr8 : Stm := (sIf (eTB (e2 (eqD true) (eAno (nLst [(eFn Fshow_address [(eSl (eVar 4) pN (pE (eC (.int 2))))]), (eFn Fshow_run [(eVar 4)]), (eFn Fshow_walk [(eVar 6)]), (eFn Fshow_book [(eVar 5)])])) (eVar 8))) (sRet (eC (.bl false))) sNext)
noncomputable def lr9 : Stm := (sIf (eTB (e2 (eqD true) (eAno (nLc [12] (.nm 12) (iR1 (eC (.int 4))) tYesD (eFn F_law_read [(eVar 12), (e2 ixD (eVar 8) (eVar 12))]))) (eVar 7))) (sRet (eC (.bl false))) sNext)
noncomputable def lr10 : Stm := (sSet 9 (eNew (nLc [14] (.nm 14) (iR1 (eC (.int 8))) tYesD (eFn F_law_bent_text [(eVar 2), (e2 ixD (eVar 8) (e2 modD (eVar 14) (eC (.int 4))))]))))
noncomputable def lr11 : Stm := (sSet 10 (eAno (nLst [(eC (.str "")), (eC (.str "-")), (eC (.str "none")), (eC (.str "0.0")), (eC (.str "31.1")), (eC (.str "0.1 to 2 by 2")), (eC (.str "-, -")), (eC (.str "-; -")), (eC (.str "0.1 to 1 by 0"))])))
noncomputable def lr12 : Stm := (sExpr (eM "list" appD (eVar 9) [(e2 ixD (eVar 10) (eFn F_law_draw [(eVar 2), (eC (.int 9))]))]))
noncomputable def lr13 : Stm := (sFgt [11] (sFor [11] (.nm 11) (iS (eVar 9)) blaw_2))
noncomputable def lr14 : Stm := (sSet 13 (e2 ixD (eAno (nLst [(eC .non), (eC (.int 7)), (eC (.bl true)), (eTup [(eC (.str "-"))]), (eAno (nLst [(eC (.str "-"))])), (eTup [(eC (.int 0)), (eC (.int 1))])])) (eFn F_law_draw [(eVar 2), (eC (.int 6))])))
noncomputable def lr15 : Stm := (sIf (eTB (e2 (eqD true) (eAno (nLc [12] (.nm 12) (iR1 (eC (.int 4))) tYesD (eFn F_law_read [(eVar 12), (eVar 13)]))) (e2 mulD (eAno (nLst [(eC (.str "NoText"))])) (eC (.int 4))))) (sRet (eC (.bl false))) sNext)
theorem lr_eq : blaw_3 = (sSeq lr1 (sSeq lr2 (sSeq lr3 (sSeq lr4 (sSeq lr5 (sSeq lr6 (sSeq lr7 (sSeq lr8 (sSeq lr9 (sSeq lr10 (sSeq lr11 (sSeq lr12 (sSeq lr13 (sSeq lr14 lr15)))))))))))))) := rfl
noncomputable abbrev E15 (F : D) (k K : Nat) (x3 x4 x5 x6 x7 x8 x9 x10 x11 x12 x13 : Option D) : En := [some F, some (.int (k : Nat)), some (.ref K), x3, x4, x5, x6, x7, x8, x9, x10, x11, x12, x13, none]
noncomputable def Fit (l : List Nat) : Prop := Tx 70000 300 l
/-- the four texts and the four things -/
noncomputable def tK (r : Rn) (w : List Rn) (ws : List (List Rn)) (i : Nat) : List Nat := match i with
  | 0 => adL r.1 r.2.1
  | 1 => ru4 r
  | 2 => wkL w
  | _ => bkL ws
theorem tK_tx {r : Rn} (hr : RnOk r) {w : List Rn} (hw : w.length ≤ 5 ∧ ∀ q ∈ w, RnOk q) {ws : List (List Rn)} (hl : ws.length ≤ 4) (hs : ∀ w ∈ ws, w.length ≤ 5 ∧ ∀ q ∈ w, RnOk q) (i : Nat) : Tx 15000 61 (tK r w ws i) := by
  obtain ⟨h1, h2, h3, h4⟩ := rn_small hr
  match i with
  | 0 => exact (ad_tx' h1 h2).mono (by decide) (Nat.le_refl _)
  | 1 => exact (ru_tx hr).mono (by decide) (Nat.le_refl _)
  | 2 => exact (wk_tx hw.1 hw.2).mono (by decide) (Nat.le_refl _)
  | i + 3 => exact bk_tx hl hs
theorem tK_want {r : Rn} (hr : RnOk r) {w : List Rn} (hw : w.length ≤ 5 ∧ ∀ q ∈ w, RnOk q) {ws : List (List Rn)} (hs : ∀ w ∈ ws, w.length ≤ 5 ∧ ∀ q ∈ w, RnOk q) : wantK 0 (tK r w ws 0) = rowD (r.1, r.2.1) ∧ wantK 1 (tK r w ws 1) = rnD r ∧ wantK 2 (tK r w ws 2) = wkD w ∧ wantK 3 (tK r w ws 3) = wsD ws := by
  obtain ⟨h1, h2, h3, h4⟩ := rn_small hr
  obtain ⟨g1, g2, g3, g4, _⟩ := hr
  refine ⟨?_, ?_, ?_, ?_⟩
  · show oN rowD (adP (adL r.1 r.2.1)) = _
    rw [adP_of h1 h2 ⟨⟨g1, g2⟩, g3, g4⟩]
    rfl
  · show oN rnD (runP (ru4 r)) = _
    rw [run_of ⟨g1, g2, g3, g4, by assumption⟩]
    rfl
  · show oN (tpD rnD) (walkP (wkL w)) = _
    rw [walk_of hw.2]
    rfl
  · show oN (tpD (tpD rnD)) (bookP (bkL ws)) = _
    rw [book_of fun w h => (hs w h).2]
    rfl
theorem one_kind (F : D) (k K : Nat) (x3 x4 x5 x6 x7 x8 x9 x10 x12 x13 : Option D) {l : List Nat} (h : Fit l) {i : Nat} (hi : i < 4) (T : Sto) : turn [] (.nm 12) blaw_1 (.int (i : Nat)) (E15 F k K x3 x4 x5 x6 x7 x8 x9 x10 (some (.str (tx l))) x12 x13) T = .next (E15 F k K x3 x4 x5 x6 x7 x8 x9 x10 (some (.str (tx l))) (some (.int (i : Nat))) x13) T := by
  have r := read_K T h (by decide) (by decide) hi
  have w := wanted_K T h (by decide) (by decide) hi
  have n := (ly_want i l).ne_self (by decide) T
  simp only [turn, blaw_1, goS, r, w, n, Bool.false_eq_true, if_false]
  try rfl
theorem one_text (F : D) (k K : Nat) (x3 x4 x5 x6 x7 x8 x9 x10 x11 x12 x13 : Option D) {l : List Nat} (h : Fit l) (T : Sto) : turn [11] (.nm 11) blaw_2 (.str (tx l)) (E15 F k K x3 x4 x5 x6 x7 x8 x9 x10 x11 x12 x13) T = .next (E15 F k K x3 x4 x5 x6 x7 x8 x9 x10 none (some (.int 3)) x13) T := by
  have o0 := fun x12 => one_kind F k K x3 x4 x5 x6 x7 x8 x9 x10 x12 x13 h (i := 0) (by decide) T
  have o1 := fun x12 => one_kind F k K x3 x4 x5 x6 x7 x8 x9 x10 x12 x13 h (i := 1) (by decide) T
  have o2 := fun x12 => one_kind F k K x3 x4 x5 x6 x7 x8 x9 x10 x12 x13 h (i := 2) (by decide) T
  have o3 := fun x12 => one_kind F k K x3 x4 x5 x6 x7 x8 x9 x10 x12 x13 h (i := 3) (by decide) T
  have q : forD [] (.nm 12) (.tmp (rngD 0 ((4 : Nat) : Int))) blaw_1 (rngD 0 ((4 : Nat) : Int)) (E15 F k K x3 x4 x5 x6 x7 x8 x9 x10 (some (.str (tx l))) x12 x13) T = .next (E15 F k K x3 x4 x5 x6 x7 x8 x9 x10 (some (.str (tx l))) (some (.int 3)) x13) T := by
    have ok : (Src.tmp (rngD 0 ((4 : Nat) : Int))).ok T := trivial
    show forD [] (.nm 12) (.tmp (rngD 0 ((4 : Nat) : Int))) blaw_1 [.int ((0 : Nat) : Int), .int ((1 : Nat) : Int), .int ((2 : Nat) : Int), .int ((3 : Nat) : Int)] _ T = _
    rw [forD_cons ok, o0]
    show forD [] (.nm 12) (.tmp (rngD 0 ((4 : Nat) : Int))) blaw_1 [.int ((1 : Nat) : Int), .int ((2 : Nat) : Int), .int ((3 : Nat) : Int)] _ T = _
    rw [forD_cons ok, o1]
    show forD [] (.nm 12) (.tmp (rngD 0 ((4 : Nat) : Int))) blaw_1 [.int ((2 : Nat) : Int), .int ((3 : Nat) : Int)] _ T = _
    rw [forD_cons ok, o2]
    show forD [] (.nm 12) (.tmp (rngD 0 ((4 : Nat) : Int))) blaw_1 [.int ((3 : Nat) : Int)] _ T = _
    rw [forD_cons ok, o3]
    exact forD_nil ok
  have hb : bindT (.nm 11) (.str (tx l)) (E15 F k K x3 x4 x5 x6 x7 x8 x9 x10 x11 x12 x13) = some (E15 F k K x3 x4 x5 x6 x7 x8 x9 x10 (some (.str (tx l))) x12 x13) := rfl
  unfold turn
  rw [hb]
  simp only [blaw_2]
  rw [forR1 (n := 4) rfl (by decide), q]
  rfl
theorem all_texts (F : D) (k K : Nat) (x3 x4 x5 x6 x7 x8 x9 x10 x13 : Option D) (q : Nat) (ys : List D) (T : Sto) (ok : (Src.st q ys).ok T) : ∀ (ls : List (List Nat)) (x11 x12 : Option D), (∀ l ∈ ls, Fit l) → ∃ y11 y12 : Option D, forD [11] (.nm 11) (.st q ys) blaw_2 (ls.map fun l => D.str (tx l)) (E15 F k K x3 x4 x5 x6 x7 x8 x9 x10 x11 x12 x13) T = .next (E15 F k K x3 x4 x5 x6 x7 x8 x9 x10 y11 y12 x13) T
  | [], x11, x12, _ => ⟨x11, x12, forD_nil ok⟩
  | l :: ls, x11, x12, h => by
    obtain ⟨y11, y12, e⟩ := all_texts F k K x3 x4 x5 x6 x7 x8 x9 x10 x13 q ys T ok ls none (some (.int 3)) fun x hx => h x (List.mem_cons_of_mem _ hx)
    refine ⟨y11, y12, ?_⟩
    rw [List.map_cons, forD_cons ok, one_text F k K x3 x4 x5 x6 x7 x8 x9 x10 x11 x12 x13 (h l List.mem_cons_self) T]
    exact e
theorem short_is (T : Sto) {o : Nat} (ho : o < 9) : ∃ l : List Nat, Fit l ∧ ixD (.lst [.str "", .str "-", .str "none", .str "0.0", .str "31.1", .str "0.1 to 2 by 2", .str "-, -", .str "-; -", .str "0.1 to 1 by 0"]) (.int (o : Nat)) T = .ok (.str (tx l)) T := by
  have t : ∀ (x : String) (l : List Nat), Str.ofString x = tx l → (∀ c ∈ l, c < 256) → l.length ≤ 20 → ixD (.lst [.str "", .str "-", .str "none", .str "0.0", .str "31.1", .str "0.1 to 2 by 2", .str "-, -", .str "-; -", .str "0.1 to 1 by 0"]) (.int (o : Nat)) T = .ok (.str x) T → ∃ l : List Nat, Fit l ∧ ixD (.lst [.str "", .str "-", .str "none", .str "0.0", .str "31.1", .str "0.1 to 2 by 2", .str "-, -", .str "-; -", .str "0.1 to 1 by 0"]) (.int (o : Nat)) T = .ok (.str (tx l)) T := fun x l e h1 h2 h3 => ⟨l, ⟨h1, by omega, (Run.of_len l).mono (by omega)⟩, by rw [h3, e]⟩
  have c : o = 0 ∨ o = 1 ∨ o = 2 ∨ o = 3 ∨ o = 4 ∨ o = 5 ∨ o = 6 ∨ o = 7 ∨ o = 8 := by omega
  rcases c with rfl | rfl | rfl | rfl | rfl | rfl | rfl | rfl | rfl
  · exact t "" [] (by decide +kernel) (by decide) (by decide) rfl
  · exact t "-" [45] (by decide +kernel) (by decide) (by decide) rfl
  · exact t "none" [110, 111, 110, 101] (by decide +kernel) (by decide) (by decide) rfl
  · exact t "0.0" [48, 46, 48] (by decide +kernel) (by decide) (by decide) rfl
  · exact t "31.1" [51, 49, 46, 49] (by decide +kernel) (by decide) (by decide) rfl
  · exact t "0.1 to 2 by 2" [48, 46, 49, 32, 116, 111, 32, 50, 32, 98, 121, 32, 50] (by decide +kernel) (by decide) (by decide) rfl
  · exact t "-, -" [45, 44, 32, 45] (by decide +kernel) (by decide) (by decide) rfl
  · exact t "-; -" [45, 59, 32, 45] (by decide +kernel) (by decide) (by decide) rfl
  · exact t "0.1 to 1 by 0" [48, 46, 49, 32, 116, 111, 32, 49, 32, 98, 121, 32, 48] (by decide +kernel) (by decide) (by decide) rfl
theorem odd_is (T : Sto) {o : Nat} (ho : o < 6) : ∃ d : D, ixD (.lst [.non, .int 7, .bl true, .tup [.str "-"], .lst [.str "-"], .tup [.int 0, .int 1]]) (.int (o : Nat)) T = .ok d T ∧ isD "str" d T = .ok (.bl false) T := by
  have c : o = 0 ∨ o = 1 ∨ o = 2 ∨ o = 3 ∨ o = 4 ∨ o = 5 := by omega
  rcases c with rfl | rfl | rfl | rfl | rfl | rfl
  · exact ⟨_, rfl, rfl⟩
  · exact ⟨_, rfl, rfl⟩
  · exact ⟨_, rfl, rfl⟩
  · exact ⟨_, rfl, rfl⟩
  · exact ⟨_, rfl, rfl⟩
  · exact ⟨_, rfl, rfl⟩
theorem rng4 : rngD 0 ((4 : Nat) : Int) = [0, 1, 2, 3].map fun i : Nat => D.int (i : Nat) := rfl
theorem one_turn (ns : List Int) (k : Nat) (hk : k < 10) (x12 : Option D) (S : Sto) : ∃ (S' : Sto) (y12 : Option D), turn [1, 2, 3, 4, 5, 6, 7, 8, 9, 10, 11, 13] (.nm 1) blaw_3 (.int (k : Nat)) [some (.fls (ns.map D.int)), none, none, none, none, none, none, none, none, none, none, none, x12, none, none] S = .next [some (.fls (ns.map D.int)), none, none, none, none, none, none, none, none, none, none, none, y12, none, none] S' := by
  obtain ⟨c, m, p, hc, hp0, hp1, q1⟩ := purse ns k (by omega) S
  have hlt : S.length < (S ++ [DO.lst [.int c, .int m, .int p]]).length := by simp
  have hT0 : Pu' (S ++ [DO.lst [.int c, .int m, .int p]]) S.length (S ++ [DO.lst [.int c, .int m, .int p]]) := ⟨⟨c, m, p, hc, hp0, hp1, (Pg_of last_at).symm⟩⟩
  generalize hX : S ++ [DO.lst [.int c, .int m, .int p]] = X at hlt hT0 q1
  generalize hF : D.fls (ns.map D.int) = F at *
  obtain ⟨n, T1, hn, hT1, q2⟩ := drawN (many := 2) hlt hT0 (by decide) (by decide)
  have q2' : F_law_draw [.ref S.length, .int 2] X = .ok (.int (n : Nat)) T1 := q2
  obtain ⟨far, hfar⟩ : ∃ far : Bool, eqD false (.int (n : Nat)) (.int 1) T1 = .ok (.bl far) T1 := ⟨_, eqD_int⟩
  -- a run
  obtain ⟨r, T2, hr, hT2, q3⟩ : ∃ (r : Rn) (T2 : Sto), RnOk r ∧ Pu' X S.length T2 ∧ F_law_run [.ref S.length, .int 31, .bl far] T1 = .ok (rnD r) T2 := by
    obtain ⟨a, f, x, s, U', a0, a1, f0, f1, hs, x0, _, l0, l1, rc, hU', q⟩ := lawrunG hlt hT1 far 31 (by decide) (by decide)
    obtain ⟨z, hz⟩ := Int.eq_ofNat_of_zero_le x0
    exact ⟨(a, f, f + x * s, s), U', ⟨a0, by show a < 31; omega, f0, f1, l0, l1, hs, z, by rw [hz]⟩, hU', q⟩
  obtain ⟨ws, T3, w1, w2, w3, _, hT3, q4⟩ := lawwalks hlt hT2 far
  have hws : ∀ w ∈ ws, w.length ≤ 5 ∧ ∀ q ∈ w, RnOk q := fun w h => ⟨w3 w h, (w1.2 w h).2⟩
  obtain ⟨i, T4, i1, hT4, q5⟩ := drawN (many := ws.length + 1) hlt hT3 (by omega) (by omega)
  have q5' : F_law_draw [.ref S.length, .int ((ws.length : Int) + 1)] T3 = .ok (.int (i : Nat)) T4 := q5
  have ad5 : addD (wsD ws) (.tup [.tup [rnD r]]) T3 = .ok (tpD wkD (ws ++ [[r]])) T3 := addT (f := wkD) (xs := ws) (ys := [[r]]) (by simp; omega)
  have ln5 : lenD [wsD ws] T3 = .ok (.int (ws.length : Nat)) T3 := by
    show lenD [.tup (ws.map wkD)] T3 = _
    rw [lenD_tup, List.length_map]
  obtain ⟨w, hw, ix5⟩ : ∃ w : List Rn, (w.length ≤ 5 ∧ ∀ q ∈ w, RnOk q) ∧ ixD (tpD wkD (ws ++ [[r]])) (.int (i : Nat)) T4 = .ok (wkD w) T4 := by
    have hi : i < (ws ++ [[r]]).length := by simp; omega
    refine ⟨(ws ++ [[r]])[i], ?_, ?_⟩
    · rcases List.mem_append.mp (List.getElem_mem hi) with h | h
      · exact hws _ h
      · rw [List.mem_singleton.mp h]
        exact ⟨by simp, fun q hq => by rw [List.mem_singleton.mp hq]; exact hr⟩
    · show opt (atI ((ws ++ [[r]]).map wkD) _) T4 = _
      rw [atI_cast, List.getElem?_map, List.getElem?_eq_getElem hi]
      rfl
  -- the texts
  obtain ⟨h1, h2, h3, h4⟩ := rn_small hr
  have hSm4 : ∀ q : Rn, RnOk q → Sm4 q := fun q hq => run4 hq
  have hsb : SmB ws := ⟨by omega, fun w h => ⟨by have := (hws w h).1; omega, fun q hq => hSm4 q ((hws w h).2 q hq)⟩⟩
  have sl6 : ∀ U : Sto, slD (rnD r) none (some 2) U = .ok (rowD (r.1, r.2.1)) U := fun U => by
    show slD (.tup _) none (some 2) U = _
    rw [slD_tup]
    rfl
  have a7 : F_law_address_text [rowD (r.1, r.2.1)] T4 = .ok (.str (tx (tK r w ws 0))) T4 := laddr_txt T4 r.1 r.2.1 (Sm_of h1).1.1 (Sm_of h2).1.1 (Sm_of h1).1.2 (Sm_of h2).1.2
  have b7 : F_law_run_text [rnD r] T4 = .ok (.str (tx (tK r w ws 1))) T4 := lrun_txt T4 r.1 r.2.1 r.2.2.1 r.2.2.2 (Sm_of h1).1 (Sm_of h2).1 (Sm_of h3).1 (Sm_of h4).1
  have c7 : F_law_walk_text [wkD w] T4 = .ok (.str (tx (tK r w ws 2))) T4 := lwalk_txt T4 w (fun q hq => hSm4 q (hw.2 q hq)) (by omega)
  have d7 : F_law_book_text [wsD ws] T4 = .ok (.str (tx (tK r w ws 3))) T4 := lbook_txt T4 ws hsb
  have a8 : Fshow_address [rowD (r.1, r.2.1)] T4 = .ok (.str (tx (tK r w ws 0))) T4 := show_addr T4 r.1 r.2.1 (Sm_of h1).1.1 (Sm_of h2).1.1 (Sm_of h1).1.2 (Sm_of h2).1.2
  have b8 : Fshow_run [rnD r] T4 = .ok (.str (tx (tK r w ws 1))) T4 := show_ru T4 r.1 r.2.1 r.2.2.1 r.2.2.2 (Sm_of h1).1 (Sm_of h2).1 (Sm_of h3).1 (Sm_of h4).1
  have c8 : Fshow_walk [wkD w] T4 = .ok (.str (tx (tK r w ws 2))) T4 := show_wk T4 w (fun q hq => hSm4 q (hw.2 q hq)) (by omega)
  have d8 : Fshow_book [wsD ws] T4 = .ok (.str (tx (tK r w ws 3))) T4 := show_bk T4 ws hsb
  have tt := tK_tx hr hw w2 hws
  have tw := tK_want hr hw hws
  have lyt : ∀ l : List Nat, (∀ c ∈ l, c < 256) → Ly 1 (.str (tx l)) := fun l h => .str (tx_lay fun c hc => by have := h c hc; omega) _
  let W8 : D := .lst [.str (tx (tK r w ws 0)), .str (tx (tK r w ws 1)), .str (tx (tK r w ws 2)), .str (tx (tK r w ws 3))]
  have n8 : eqD true W8 W8 T4 = .ok (.bl false) T4 := (Ly.lst (n := 1) (xs := [.str (tx (tK r w ws 0)), .str (tx (tK r w ws 1)), .str (tx (tK r w ws 2)), .str (tx (tK r w ws 3))]) fun x hx => by
    simp only [List.mem_cons, List.not_mem_nil, or_false] at hx
    rcases hx with rfl | rfl | rfl | rfl
    · exact lyt _ (tt 0).asc
    · exact lyt _ (tt 1).asc
    · exact lyt _ (tt 2).asc
    · exact lyt _ (tt 3).asc).ne_self (by decide) T4
  have ix8 : ∀ (j : Nat), j < 4 → ∀ U, ixD W8 (.int (j : Nat)) U = .ok (.str (tx (tK r w ws j))) U := fun j hj U => by
    have c : j = 0 ∨ j = 1 ∨ j = 2 ∨ j = 3 := by omega
    rcases c with rfl | rfl | rfl | rfl <;> rfl
  -- read again
  let W7 : D := .lst [rowD (r.1, r.2.1), rnD r, wkD w, wsD ws]
  have lc9 : nLc [12] (.nm 12) (iR1 (eC (.int 4))) tYesD (eFn F_law_read [(eVar 12), (e2 ixD (eVar 8) (eVar 12))]) (E15 F k S.length (some (.bl far)) (some (rnD r)) (some (wsD ws)) (some (wkD w)) (some W7) (some W8) none none none x12 none) T4 = .ok (.lst [rowD (r.1, r.2.1), rnD r, wkD w, wsD ws]) T4 := by
    have e : [rowD (r.1, r.2.1), rnD r, wkD w, wsD ws] = [0, 1, 2, 3].map fun i : Nat => wantK i (tK r w ws i) := by
      show _ = [wantK 0 (tK r w ws 0), wantK 1 (tK r w ws 1), wantK 2 (tK r w ws 2), wantK 3 (tK r w ws 3)]
      rw [tw.1, tw.2.1, tw.2.2.1, tw.2.2.2]
    refine nLcR1 (n := 4) rfl (by decide) ?_
    rw [rng4, e]
    refine lc_all (tg := .nm 12) (fun i : Nat => D.int (i : Nat)) (fun i => wantK i (tK r w ws i)) [0, 1, 2, 3] fun j hj => ⟨(E15 F k S.length (some (.bl far)) (some (rnD r)) (some (wsD ws)) (some (wkD w)) (some W7) (some W8) none none none (some (.int (j : Nat))) none), rfl, ?_⟩
    have hj : j < 4 := by
      simp only [List.mem_cons, List.not_mem_nil, or_false] at hj
      omega
    simp only [goS, ix8 j hj, read_K T4 (tt j) (by decide) (by decide) hj]
  have n9 : eqD true (.lst [rowD (r.1, r.2.1), rnD r, wkD w, wsD ws]) W7 T4 = .ok (.bl false) T4 := (Ly.lst (n := 5) (xs := [rowD (r.1, r.2.1), rnD r, wkD w, wsD ws]) fun x hx => by
    simp only [List.mem_cons, List.not_mem_nil, or_false] at hx
    rcases hx with rfl | rfl | rfl | rfl
    · rw [← tw.1]; exact ly_want _ _
    · rw [← tw.2.1]; exact ly_want _ _
    · rw [← tw.2.2.1]; exact ly_want _ _
    · rw [← tw.2.2.2]; exact ly_want _ _).ne_self (by decide) T4
  -- bent
  obtain ⟨ls, T5, l1, l2, hT5, q10⟩ := lc_dr (X := X) (k := S.length) (tg := .nm 14) (g := eFn F_law_bent_text [(eVar 2), (e2 ixD (eVar 8) (e2 modD (eVar 14) (eC (.int 4))))]) (e := (E15 F k S.length (some (.bl far)) (some (rnD r)) (some (wsD ws)) (some (wkD w)) (some W7) (some W8) none none none x12 none)) (ys := rngD 0 ((8 : Nat) : Int)) (fun l => D.str (tx l)) Fit (rngD 0 ((8 : Nat) : Int)) T4 (fun x hx U hU => by
    obtain ⟨j, hj⟩ := List.mem_iff_getElem?.mp hx
    obtain ⟨ex, hlt'⟩ := rngD_get hj
    rw [Int.zero_add] at ex
    subst ex
    have md : modD (.int (j : Nat)) (.int 4) U = .ok (.int ((j : Nat) % 4 : Int)) U := modD_pos (by decide)
    have e4 : ((j : Nat) % 4 : Int) = ((j % 4 : Nat) : Int) := by omega
    rw [e4] at md
    obtain ⟨l', U', g1, g2, g3⟩ := bent_text hlt hU (tt (j % 4)) (by decide)
    refine ⟨[some F, some (.int (k : Nat)), some (.ref S.length), some (.bl far), some (rnD r), some (wsD ws), some (wkD w), some W7, some W8, none, none, none, x12, none, some (.int (j : Nat))], l', U', rfl, ?_, g1.mono (by decide) (by decide), g2⟩
    simp only [goS, md, ix8 (j % 4) (by omega), g3]) hT4
  have n10 : nLc [14] (.nm 14) (iR1 (eC (.int 8))) tYesD (eFn F_law_bent_text [(eVar 2), (e2 ixD (eVar 8) (e2 modD (eVar 14) (eC (.int 4))))]) (E15 F k S.length (some (.bl far)) (some (rnD r)) (some (wsD ws)) (some (wkD w)) (some W7) (some W8) none none none x12 none) T4 = .ok (.lst (ls.map fun l => D.str (tx l))) T5 := nLcR1t (n := 8) rfl (by decide) q10
  have ls8 : ls.length = 8 := by rw [l1, rngD_len]; rfl
  -- the store with the list
  have hT6 : Pu' (X ++ [.lst (ls.map fun l => D.str (tx l))]) S.length (T5 ++ [.lst (ls.map fun l => D.str (tx l))]) := Pu_app hlt hT5
  have lT5 := Pu_len hT5
  obtain ⟨o, T7, o1, hT7, q12⟩ := drawN (many := 9) (by simp; omega) hT6 (by decide) (by decide)
  have q12' : F_law_draw [.ref S.length, .int 9] (T5 ++ [.lst (ls.map fun l => D.str (tx l))]) = .ok (.int (o : Nat)) T7 := q12
  obtain ⟨ln, fn, ixs⟩ := short_is T7 o1
  have at7 := Pu_last hlt hT7
  have at6 : (T5 ++ [DO.lst (ls.map fun l => D.str (tx l))])[X.length]? = some (.lst (ls.map fun l => D.str (tx l))) := by rw [← lT5]; exact last_at
  have ap12 : appD (.ref X.length) [.str (tx ln)] T7 = .ok .non (T7.set X.length (.lst ((ls ++ [ln]).map fun l => D.str (tx l)))) := by
    rw [appD_ref at7 (sz (by rw [List.length_map]; omega)), List.map_append]
    rfl
  have hT8 : Pu' (X ++ [.lst ((ls ++ [ln]).map fun l => D.str (tx l))]) S.length (T7.set X.length (.lst ((ls ++ [ln]).map fun l => D.str (tx l)))) := Pu_setl hlt hT7
  have at8 := Pu_last hlt hT8
  generalize hT8e : T7.set X.length (.lst ((ls ++ [ln]).map fun l => D.str (tx l))) = T8 at *
  let W10 : D := .lst [.str "", .str "-", .str "none", .str "0.0", .str "31.1", .str "0.1 to 2 by 2", .str "-, -", .str "-; -", .str "0.1 to 1 by 0"]
  obtain ⟨y11, y12, q13⟩ := all_texts F k S.length (some (.bl far)) (some (rnD r)) (some (wsD ws)) (some (wkD w)) (some W7) (some W8) (some (.ref X.length)) (some W10) none X.length ((ls ++ [ln]).map fun l => D.str (tx l)) T8 at8 (ls ++ [ln]) none x12 (fun l hl => by
    rcases List.mem_append.mp hl with h | h
    · exact l2 l h
    · rw [List.mem_singleton.mp h]; exact fn)
  obtain ⟨z, T9, z1, hT9, q14⟩ := drawN (many := 6) (by simp; omega) hT8 (by decide) (by decide)
  have q14' : F_law_draw [.ref S.length, .int 6] T8 = .ok (.int (z : Nat)) T9 := q14
  obtain ⟨d, d1, d2⟩ := odd_is T9 z1
  have lc15 : ∀ x12 : Option D, nLc [12] (.nm 12) (iR1 (eC (.int 4))) tYesD (eFn F_law_read [(eVar 12), (eVar 13)]) (E15 F k S.length (some (.bl far)) (some (rnD r)) (some (wsD ws)) (some (wkD w)) (some W7) (some W8) (some (.ref X.length)) (some W10) none x12 (some d)) T9 = .ok (.lst [.str "NoText", .str "NoText", .str "NoText", .str "NoText"]) T9 := fun x12 => by
    refine nLcR1 (n := 4) rfl (by decide) ?_
    rw [rng4]
    refine lc_all (tg := .nm 12) (fun i : Nat => D.int (i : Nat)) (fun _ => D.str "NoText") [0, 1, 2, 3] fun j hj => ⟨(E15 F k S.length (some (.bl far)) (some (rnD r)) (some (wsD ws)) (some (wkD w)) (some W7) (some W8) (some (.ref X.length)) (some W10) none (some (.int (j : Nat))) (some d)), rfl, ?_⟩
    have hj : j < 4 := by
      simp only [List.mem_cons, List.not_mem_nil, or_false] at hj
      omega
    simp only [goS, read_odd T9 d d2 hj]
  have m15 : mulD (.lst [.str "NoText"]) (.int 4) T9 = .ok (.lst [.str "NoText", .str "NoText", .str "NoText", .str "NoText"]) T9 := by
    show (if -(2 ^ 63) ≤ (4 : Int) ∧ (4 : Int) < 2 ^ 63 ∧ [D.str "NoText"].length * (4 : Int).toNat ≤ sizeLine then Res.ok (D.lst (List.replicate (4 : Int).toNat [D.str "NoText"]).flatten) T9 else .bad) = _
    rw [if_pos ⟨by decide, by decide, by decide +kernel⟩]
    rfl
  have n15 : eqD true (.lst [.str "NoText", .str "NoText", .str "NoText", .str "NoText"]) (.lst [.str "NoText", .str "NoText", .str "NoText", .str "NoText"]) T9 = .ok (.bl false) T9 := (Ly.lst (n := 1) fun x hx => by
    simp only [List.mem_cons, List.not_mem_nil, or_false, or_self] at hx
    rw [hx]
    exact .str (by decide +kernel) _).ne_self (by decide) T9
  -- the walk through the turn
  have p1 : lr1 (E15 F k S.length none none none none none none none none none x12 none |>.set 2 none) S = .next (E15 F k S.length none none none none none none none none none x12 none) X := by
    simp only [lr1, goS, q1]
  have p2 : lr2 (E15 F k S.length none none none none none none none none none x12 none) X = .next (E15 F k S.length (some (.bl far)) none none none none none none none none x12 none) T1 := by
    simp only [lr2, goS, q2', hfar]
  have p3 : lr3 (E15 F k S.length (some (.bl far)) none none none none none none none none x12 none) T1 = .next (E15 F k S.length (some (.bl far)) (some (rnD r)) none none none none none none none x12 none) T2 := by
    simp only [lr3, goS, q3]
  have p4 : lr4 (E15 F k S.length (some (.bl far)) (some (rnD r)) none none none none none none none x12 none) T2 = .next (E15 F k S.length (some (.bl far)) (some (rnD r)) (some (wsD ws)) none none none none none none x12 none) T3 := by
    simp only [lr4, goS, q4]
  have p5 : lr5 (E15 F k S.length (some (.bl far)) (some (rnD r)) (some (wsD ws)) none none none none none none x12 none) T3 = .next (E15 F k S.length (some (.bl far)) (some (rnD r)) (some (wsD ws)) (some (wkD w)) none none none none none x12 none) T4 := by
    simp only [lr5, goS, ad5, ln5, addD_int, q5', ix5]
  have p6 : lr6 (E15 F k S.length (some (.bl far)) (some (rnD r)) (some (wsD ws)) (some (wkD w)) none none none none none x12 none) T4 = .next (E15 F k S.length (some (.bl far)) (some (rnD r)) (some (wsD ws)) (some (wkD w)) (some W7) none none none none x12 none) T4 := by
    simp only [lr6, goS, sl6]
    rfl
  have p7 : lr7 (E15 F k S.length (some (.bl far)) (some (rnD r)) (some (wsD ws)) (some (wkD w)) (some W7) none none none none x12 none) T4 = .next (E15 F k S.length (some (.bl far)) (some (rnD r)) (some (wsD ws)) (some (wkD w)) (some W7) (some W8) none none none x12 none) T4 := by
    simp only [lr7, goS, sl6, a7, b7, c7, d7]
    rfl
  have p8 : lr8 (E15 F k S.length (some (.bl far)) (some (rnD r)) (some (wsD ws)) (some (wkD w)) (some W7) (some W8) none none none x12 none) T4 = .next (E15 F k S.length (some (.bl far)) (some (rnD r)) (some (wsD ws)) (some (wkD w)) (some W7) (some W8) none none none x12 none) T4 := by
    have n8' : eqD true (.lst [.str (tx (tK r w ws 0)), .str (tx (tK r w ws 1)), .str (tx (tK r w ws 2)), .str (tx (tK r w ws 3))]) W8 T4 = .ok (.bl false) T4 := n8
    simp only [lr8, goS, sl6, a8, b8, c8, d8, n8', Bool.false_eq_true, if_false]
  have p9 : lr9 (E15 F k S.length (some (.bl far)) (some (rnD r)) (some (wsD ws)) (some (wkD w)) (some W7) (some W8) none none none x12 none) T4 = .next (E15 F k S.length (some (.bl far)) (some (rnD r)) (some (wsD ws)) (some (wkD w)) (some W7) (some W8) none none none x12 none) T4 := by
    simp only [lr9, goS, lc9, n9, Bool.false_eq_true, if_false]
  have p10 : lr10 (E15 F k S.length (some (.bl far)) (some (rnD r)) (some (wsD ws)) (some (wkD w)) (some W7) (some W8) none none none x12 none) T4 = .next (E15 F k S.length (some (.bl far)) (some (rnD r)) (some (wsD ws)) (some (wkD w)) (some W7) (some W8) (some (.ref X.length)) none none x12 none) (T5 ++ [.lst (ls.map fun l => D.str (tx l))]) := by
    simp only [lr10, goS, n10, lT5]
  have p11 : lr11 (E15 F k S.length (some (.bl far)) (some (rnD r)) (some (wsD ws)) (some (wkD w)) (some W7) (some W8) (some (.ref X.length)) none none x12 none) (T5 ++ [.lst (ls.map fun l => D.str (tx l))]) = .next (E15 F k S.length (some (.bl far)) (some (rnD r)) (some (wsD ws)) (some (wkD w)) (some W7) (some W8) (some (.ref X.length)) (some W10) none x12 none) (T5 ++ [.lst (ls.map fun l => D.str (tx l))]) := by
    simp only [lr11, goS]
    rfl
  have p12 : lr12 (E15 F k S.length (some (.bl far)) (some (rnD r)) (some (wsD ws)) (some (wkD w)) (some W7) (some W8) (some (.ref X.length)) (some W10) none x12 none) (T5 ++ [.lst (ls.map fun l => D.str (tx l))]) = .next (E15 F k S.length (some (.bl far)) (some (rnD r)) (some (wsD ws)) (some (wkD w)) (some W7) (some W8) (some (.ref X.length)) (some W10) none x12 none) T8 := by
    have ixs' : ixD W10 (.int (o : Nat)) T7 = .ok (.str (tx ln)) T7 := ixs
    simp only [lr12, goS, q12', ixs', isT_ref at6, if_true, ap12]
  have p13 : lr13 (E15 F k S.length (some (.bl far)) (some (rnD r)) (some (wsD ws)) (some (wkD w)) (some W7) (some W8) (some (.ref X.length)) (some W10) none x12 none) T8 = .next (E15 F k S.length (some (.bl far)) (some (rnD r)) (some (wsD ws)) (some (wkD w)) (some W7) (some W8) (some (.ref X.length)) (some W10) none y12 none) T8 := by
    simp only [lr13, ap_Fgt]
    rw [forS_ref (xs := (ls ++ [ln]).map fun l => D.str (tx l)) rfl at8, q13]
    rfl
  have p14 : lr14 (E15 F k S.length (some (.bl far)) (some (rnD r)) (some (wsD ws)) (some (wkD w)) (some W7) (some W8) (some (.ref X.length)) (some W10) none y12 none) T8 = .next (E15 F k S.length (some (.bl far)) (some (rnD r)) (some (wsD ws)) (some (wkD w)) (some W7) (some W8) (some (.ref X.length)) (some W10) none y12 (some d)) T9 := by
    simp only [lr14, goS, q14', d1]
  have p15 : lr15 (E15 F k S.length (some (.bl far)) (some (rnD r)) (some (wsD ws)) (some (wkD w)) (some W7) (some W8) (some (.ref X.length)) (some W10) none y12 (some d)) T9 = .next (E15 F k S.length (some (.bl far)) (some (rnD r)) (some (wsD ws)) (some (wkD w)) (some W7) (some W8) (some (.ref X.length)) (some W10) none y12 (some d)) T9 := by
    simp only [lr15, goS, lc15, m15, n15, Bool.false_eq_true, if_false]
  refine ⟨T9, y12, ?_⟩
  rw [lr_eq]
  have hb : bindT (.nm 1) (.int (k : Nat)) [some F, none, none, none, none, none, none, none, none, none, none, none, x12, none, none] = some ((E15 F k S.length none none none none none none none none none x12 none).set 2 none) := rfl
  simp only [turn, hb, ap_Seq, p1, p2, p3, p4, p5, p6, p7, p8, p9, p10, p11, p12, p13, p14, p15, SRes.seq_next]
  rfl
theorem math : ∀ ns : List Int, ns.length ≤ 63 → ∃ S, Flaw [.fls (ns.map D.int)] [] = .ok (.bl true) S := by
  intro ns hl
  have hn : ∃ n : Nat, n ≤ 4 ∧ maxI 1 (minI 4 (ns.length : Int)) = (n : Int) := by
    refine ⟨max 1 (min 4 ns.length), by omega, ?_⟩
    unfold maxI minI
    split <;> split <;> omega
  obtain ⟨n, h5, hn⟩ := hn
  obtain ⟨e', S', q, hI⟩ := for_inv0 (dead := [1, 2, 3, 4, 5, 6, 7, 8, 9, 10, 11, 13]) (tg := .nm 1) (body := blaw_3) (ys := rngD 0 n) (xs := rngD 0 n) (S := []) (e := [some (.fls (ns.map D.int)), none, none, none, none, none, none, none, none, none, none, none, none, none, none])
    (fun i e S' => ∃ x12 : Option D, e = [some (.fls (ns.map D.int)), none, none, none, none, none, none, none, none, none, none, none, x12, none, none]) ⟨none, rfl⟩ (fun i e S' x hx ⟨x12, he⟩ => by
      subst he
      obtain ⟨ex, hlt⟩ := rngD_get hx
      subst ex
      rw [Int.zero_add]
      obtain ⟨S'', y12, q⟩ := one_turn ns i (by omega) x12 S'
      exact ⟨_, _, q, y12, rfl⟩)
  obtain ⟨x12, rfl⟩ := hI
  refine ⟨S'.take 0, ?_⟩
  have hm : F_law_many [.fls (ns.map D.int), .int 4] [] = .ok (.lst (rngD 0 n)) [] := by
    have m1 : ∀ i j : Int, ii2D minI [.int i, .int j] [] = .ok (.int (minI i j)) [] := fun i j => rfl
    have m2 : ∀ i j : Int, ii2D maxI [.int i, .int j] [] = .ok (.int (maxI i j)) [] := fun i j => rfl
    have hf : (eCall (ii2D maxI) [(eC (.int 1)), (eCall (ii2D minI) [(eVar 1), (eCall lenD [(eVar 0)])])]) [some (.fls (ns.map D.int)), some (.int 4)] [] = .ok (.int (n : Nat)) [] := by
      simp only [goS, lenD_fls, List.length_map, m1, m2, hn]
    simp only [F_law_many, runD, b_law_many, go0, ap_Ret, ap_Ano, nRg1_ok hf (by omega) (by omega), Res.bind_ok, anoD_lst, Res.stm_ok, retD_ret, rep_0]
    refine fin_same ?_
    rw [gnd_lst, rng_map]
    exact gnds_map (fun _ => rfl) _
  simp only [Flaw, runD, blaw, go0, goS]
  rw [forS_lst (xs := rngD 0 n) (by simp only [goS, hm]), q]
  simp only [goS]
  exact fin_frz ⟨Nat.zero_le _, fun k o hk => absurd hk (by simp)⟩ rfl
end Lw
open PySem PySem.W PyProof.Rows
set_option maxRecDepth 100000 in
set_option maxHeartbeats 0 in
theorem PySem.Challenge.cw_walkframe_k65_texts_of_addresses_and_wal_holds : PySem.Challenge.rw_walkframe_k65_texts_of_addresses_and_wal.Holds := by
  w_on; o_law; k_head; (case hw => w_witness2)
  k_fill
  refine L2.walk_of (l := PySem.Challenge.rw_walkframe_k65_texts_of_addresses_and_wal) (n := 63) (k := 8) (x := "_law_script") (CX := fun w => L2N.CX PySem.Challenge.pw_walkframe_k65_texts_of_addresses_and_wal w) (sp := fun w => Pu.SpE _ 1 Lw.Flaw) rfl (by decide) rfl ⟨rfl, by decide, by decide⟩ (fun w h Y => PySem.W.kIn_of Y) ?F (fun w H a ns hl _ hs => Pu.law_sp Lw.math H a ns hl hs) (fun w H s e s' h => Pu.cx_no h)
  case F =>
    intro w mg fa h KX G hmg
    refine' Lw.all_ok KX G hmg ?a0 ?l0 ?c0 ?k0 ?a1 ?l1 ?c1 ?k1 ?a2 ?l2 ?c2 ?k2 ?a3 ?l3 ?c3 ?k3 ?a4 ?l4 ?c4 ?k4 ?a5 ?l5 ?c5 ?k5 ?a6 ?l6 ?c6 ?k6 ?a7 ?l7 ?c7 ?k7 ?a8 ?l8 ?c8 ?k8 ?a9 ?l9 ?c9 ?k9 ?a10 ?l10 ?c10 ?k10 ?a11 ?l11 ?c11 ?k11 ?a12 ?l12 ?c12 ?k12 ?a13 ?l13 ?c13 ?k13 ?a14 ?l14 ?c14 ?k14 ?a15 ?l15 ?c15 ?k15 ?a16 ?l16 ?c16 ?k16 ?a17 ?l17 ?c17 ?k17 ?a18 ?l18 ?c18 ?k18 ?a19 ?l19 ?c19 ?k19 ?a20 ?l20 ?c20 ?k20 ?a21 ?l21 ?c21 ?k21 ?a22 ?l22 ?c22 ?k22 ?a23 ?l23 ?c23 ?k23 ?a24 ?l24 ?c24 ?k24 ?a25 ?l25 ?c25 ?k25 ?a26 ?l26 ?c26 ?k26 ?a27 ?l27 ?c27 ?k27 ?a28 ?l28 ?c28 ?k28 ?a29 ?l29 ?c29 ?k29 ?a30 ?l30 ?c30 ?k30 ?a31 ?l31 ?c31 ?k31 ?a32 ?l32 ?c32 ?k32 ?a33 ?l33 ?c33 ?k33 ?a34 ?l34 ?c34 ?k34 ?a35 ?l35 ?c35 ?k35 ?a36 ?l36 ?c36 ?k36 ?a37 ?l37 ?c37 ?k37 ?a38 ?l38 ?c38 ?k38 ?a39 ?l39 ?c39 ?k39 ?a40 ?l40 ?c40 ?k40 ?a41 ?l41 ?c41 ?k41 ?a42 ?l42 ?c42 ?k42 ?z_ValueError ?z_abs ?z_all ?z_any ?z_bool ?z_int ?z_isinstance ?z_len ?z_list ?z_max ?z_min ?z_range ?z_str ?z_tuple ?g_DIGITS ?g_MOST_NUMBER ?g_NOTHING ?g_NO_RUNS ?g_STEPS ?m_STEPS ?g_STREETS ?yg_LetterError ?yg_NoBin ?yg_NoBook ?yg_NoCarrier ?yg_NoLetter ?yg_NoMark ?yg_NoOffice ?yg_NoOrder ?yg_NoPile ?yg_NoPlan ?yg_NoRow ?yg_NoStop ?yg_NoTaking ?yg_NoText ?yg_NotDone ?ye_LetterError ?yk_LetterError ?yb_LetterError ?ye_NoText ?yk_NoText ?yb_NoText ?yx0_NoText ?yx1_NoText ?yx2_NoText ?yx3_NoText ?ys_NoText_LetterError ?yi_NoText_NoBin ?ywi_NoText_NoBin ?yi_NoText_NoBook ?ywi_NoText_NoBook ?yi_NoText_NoCarrier ?ywi_NoText_NoCarrier ?yi_NoText_NoLetter ?ywi_NoText_NoLetter ?yi_NoText_NoMark ?ywi_NoText_NoMark ?yi_NoText_NoOffice ?ywi_NoText_NoOffice ?yi_NoText_NoOrder ?ywi_NoText_NoOrder ?yi_NoText_NoPile ?ywi_NoText_NoPile ?yi_NoText_NoPlan ?ywi_NoText_NoPlan ?yi_NoText_NoRow ?ywi_NoText_NoRow ?yi_NoText_NoStop ?ywi_NoText_NoStop ?yi_NoText_NoTaking ?ywi_NoText_NoTaking ?yi_NoText_NoText ?yi_NoText_NotDone ?ywi_NoText_NotDone ?yv_NoText ?yt_LetterError ?yd_LetterError ?yt_NoBin ?yd_NoBin ?yt_NoBook ?yd_NoBook ?yt_NoCarrier ?yd_NoCarrier ?yt_NoLetter ?yd_NoLetter ?yt_NoMark ?yd_NoMark ?yt_NoOffice ?yd_NoOffice ?yt_NoOrder ?yd_NoOrder ?yt_NoPile ?yd_NoPile ?yt_NoPlan ?yd_NoPlan ?yt_NoRow ?yd_NoRow ?yt_NoStop ?yd_NoStop ?yt_NoTaking ?yd_NoTaking ?yt_NoText ?yd_NoText ?yt_NotDone ?yd_NotDone ?yn ?yq
    (case a0 => k_is)
    (case l0 => k_is)
    (case c0 => k_is)
    (case k0 => k_is)
    (case a1 => k_is)
    (case l1 => k_is)
    (case c1 => k_is)
    (case k1 => k_is)
    (case a2 => k_is)
    (case l2 => k_is)
    (case c2 => k_is)
    (case k2 => k_is)
    (case a3 => k_is)
    (case l3 => k_is)
    (case c3 => k_is)
    (case k3 => k_is)
    (case a4 => k_is)
    (case l4 => k_is)
    (case c4 => k_is)
    (case k4 => k_is)
    (case a5 => k_is)
    (case l5 => k_is)
    (case c5 => k_is)
    (case k5 => k_is)
    (case a6 => k_is)
    (case l6 => k_is)
    (case c6 => k_is)
    (case k6 => k_is)
    (case a7 => k_is)
    (case l7 => k_is)
    (case c7 => k_is)
    (case k7 => k_is)
    (case a8 => k_is)
    (case l8 => k_is)
    (case c8 => k_is)
    (case k8 => k_is)
    (case a9 => k_is)
    (case l9 => k_is)
    (case c9 => k_is)
    (case k9 => k_is)
    (case a10 => k_is)
    (case l10 => k_is)
    (case c10 => k_is)
    (case k10 => k_is)
    (case a11 => k_is)
    (case l11 => k_is)
    (case c11 => k_is)
    (case k11 => k_is)
    (case a12 => k_is)
    (case l12 => k_is)
    (case c12 => k_is)
    (case k12 => k_is)
    (case a13 => k_is)
    (case l13 => k_is)
    (case c13 => k_is)
    (case k13 => k_is)
    (case a14 => k_is)
    (case l14 => k_is)
    (case c14 => k_is)
    (case k14 => k_is)
    (case a15 => k_is)
    (case l15 => k_is)
    (case c15 => k_is)
    (case k15 => k_is)
    (case a16 => k_is)
    (case l16 => k_is)
    (case c16 => k_is)
    (case k16 => k_is)
    (case a17 => k_is)
    (case l17 => k_is)
    (case c17 => k_is)
    (case k17 => k_is)
    (case a18 => k_is)
    (case l18 => k_is)
    (case c18 => k_is)
    (case k18 => k_is)
    (case a19 => k_is)
    (case l19 => k_is)
    (case c19 => k_is)
    (case k19 => k_is)
    (case a20 => k_is)
    (case l20 => k_is)
    (case c20 => k_is)
    (case k20 => k_is)
    (case a21 => k_is)
    (case l21 => k_is)
    (case c21 => k_is)
    (case k21 => k_is)
    (case a22 => k_is)
    (case l22 => k_is)
    (case c22 => k_is)
    (case k22 => k_is)
    (case a23 => k_is)
    (case l23 => k_is)
    (case c23 => k_is)
    (case k23 => k_is)
    (case a24 => k_is)
    (case l24 => k_is)
    (case c24 => k_is)
    (case k24 => k_is)
    (case a25 => k_is)
    (case l25 => k_is)
    (case c25 => k_is)
    (case k25 => k_is)
    (case a26 => k_is)
    (case l26 => k_is)
    (case c26 => k_is)
    (case k26 => k_is)
    (case a27 => k_is)
    (case l27 => k_is)
    (case c27 => k_is)
    (case k27 => k_is)
    (case a28 => k_is)
    (case l28 => k_is)
    (case c28 => k_is)
    (case k28 => k_is)
    (case a29 => k_is)
    (case l29 => k_is)
    (case c29 => k_is)
    (case k29 => k_is)
    (case a30 => k_is)
    (case l30 => k_is)
    (case c30 => k_is)
    (case k30 => k_is)
    (case a31 => k_is)
    (case l31 => k_is)
    (case c31 => k_is)
    (case k31 => k_is)
    (case a32 => k_is)
    (case l32 => k_is)
    (case c32 => k_is)
    (case k32 => k_is)
    (case a33 => k_is)
    (case l33 => k_is)
    (case c33 => k_is)
    (case k33 => k_is)
    (case a34 => k_is)
    (case l34 => k_is)
    (case c34 => k_is)
    (case k34 => k_is)
    (case a35 => k_is)
    (case l35 => k_is)
    (case c35 => k_is)
    (case k35 => k_is)
    (case a36 => k_is)
    (case l36 => k_is)
    (case c36 => k_is)
    (case k36 => k_is)
    (case a37 => k_is)
    (case l37 => k_is)
    (case c37 => k_is)
    (case k37 => k_is)
    (case a38 => k_is)
    (case l38 => k_is)
    (case c38 => k_is)
    (case k38 => k_is)
    (case a39 => k_is)
    (case l39 => k_is)
    (case c39 => k_is)
    (case k39 => k_is)
    (case a40 => k_is)
    (case l40 => k_is)
    (case c40 => k_is)
    (case k40 => k_is)
    (case a41 => k_is)
    (case l41 => k_is)
    (case c41 => k_is)
    (case k41 => k_is)
    (case a42 => k_is)
    (case l42 => k_is)
    (case c42 => k_is)
    (case k42 => k_is)
    (case z_ValueError => k_is)
    (case z_abs => k_is)
    (case z_all => k_is)
    (case z_any => k_is)
    (case z_bool => k_is)
    (case z_int => k_is)
    (case z_isinstance => k_is)
    (case z_len => k_is)
    (case z_list => k_is)
    (case z_max => k_is)
    (case z_min => k_is)
    (case z_range => k_is)
    (case z_str => k_is)
    (case z_tuple => k_is)
    (case g_DIGITS => k_is)
    (case g_MOST_NUMBER => k_is)
    (case g_NOTHING => k_is)
    (case g_NO_RUNS => k_is)
    (case g_STEPS => k_is)
    (case m_STEPS => k_is)
    (case g_STREETS => k_is)
    (case yg_LetterError => k_is)
    (case yg_NoBin => k_is)
    (case yg_NoBook => k_is)
    (case yg_NoCarrier => k_is)
    (case yg_NoLetter => k_is)
    (case yg_NoMark => k_is)
    (case yg_NoOffice => k_is)
    (case yg_NoOrder => k_is)
    (case yg_NoPile => k_is)
    (case yg_NoPlan => k_is)
    (case yg_NoRow => k_is)
    (case yg_NoStop => k_is)
    (case yg_NoTaking => k_is)
    (case yg_NoText => k_is)
    (case yg_NotDone => k_is)
    (case ye_LetterError => k_exc)
    (case yk_LetterError => k_is)
    (case yb_LetterError => k_is)
    (case ye_NoText => k_exc)
    (case yk_NoText => k_is)
    (case yb_NoText => k_is)
    (case yx0_NoText => k_is)
    (case yx1_NoText => k_is)
    (case yx2_NoText => k_is)
    (case yx3_NoText => k_is)
    (case ys_NoText_LetterError => k_is)
    (case yi_NoText_NoBin => k_is)
    (case ywi_NoText_NoBin => decide)
    (case yi_NoText_NoBook => k_is)
    (case ywi_NoText_NoBook => decide)
    (case yi_NoText_NoCarrier => k_is)
    (case ywi_NoText_NoCarrier => decide)
    (case yi_NoText_NoLetter => k_is)
    (case ywi_NoText_NoLetter => decide)
    (case yi_NoText_NoMark => k_is)
    (case ywi_NoText_NoMark => decide)
    (case yi_NoText_NoOffice => k_is)
    (case ywi_NoText_NoOffice => decide)
    (case yi_NoText_NoOrder => k_is)
    (case ywi_NoText_NoOrder => decide)
    (case yi_NoText_NoPile => k_is)
    (case ywi_NoText_NoPile => decide)
    (case yi_NoText_NoPlan => k_is)
    (case ywi_NoText_NoPlan => decide)
    (case yi_NoText_NoRow => k_is)
    (case ywi_NoText_NoRow => decide)
    (case yi_NoText_NoStop => k_is)
    (case ywi_NoText_NoStop => decide)
    (case yi_NoText_NoTaking => k_is)
    (case ywi_NoText_NoTaking => decide)
    (case yi_NoText_NoText => k_is)
    (case yi_NoText_NotDone => k_is)
    (case ywi_NoText_NotDone => decide)
    (case yv_NoText => k_is)
    (case yt_LetterError => k_is)
    (case yd_LetterError => k_is)
    (case yt_NoBin => k_is)
    (case yd_NoBin => k_is)
    (case yt_NoBook => k_is)
    (case yd_NoBook => k_is)
    (case yt_NoCarrier => k_is)
    (case yd_NoCarrier => k_is)
    (case yt_NoLetter => k_is)
    (case yd_NoLetter => k_is)
    (case yt_NoMark => k_is)
    (case yd_NoMark => k_is)
    (case yt_NoOffice => k_is)
    (case yd_NoOffice => k_is)
    (case yt_NoOrder => k_is)
    (case yd_NoOrder => k_is)
    (case yt_NoPile => k_is)
    (case yd_NoPile => k_is)
    (case yt_NoPlan => k_is)
    (case yd_NoPlan => k_is)
    (case yt_NoRow => k_is)
    (case yd_NoRow => k_is)
    (case yt_NoStop => k_is)
    (case yd_NoStop => k_is)
    (case yt_NoTaking => k_is)
    (case yd_NoTaking => k_is)
    (case yt_NoText => k_is)
    (case yd_NoText => k_is)
    (case yt_NotDone => k_is)
    (case yd_NotDone => k_is)
    (case yn => k_is)
    (case yq => k_is)
