import PyProof.Rows.All
import Wide.All
import OpenK.AllK
import Wide.FinOn
import HandS.ForMost
import HandS.ForExc
import HandS.Wide
import HandS.IsInst
import HandS.TupAny
import HandS.TupMul
import HandS.Deep
import HandS.WideBits
import HandS.Flow
import HandS.ExcCtx
import HandS.HotCalls
import HandS.ExcIs
import HandS.SortInts
import HandS.SortRule
import HandS.SetFor
import HandS.Strs
import HandS.More
import HandS.ExcValue
import HandS.TupLe
import HandS.Style
import HandS.Iter
import HandS.Zip
import HandS.Conv
import KE.GoesEnum
import PyProof.WalksMore
import PyProof.MinMaxWalk
import PyProof.SumWalkG
import PyProof.StrOps2
import KE.DataMinMax
import KE.KDictPairs
import HandS.SetKeys
import HandS.Text
import HandS.Flt
import KE.KDictList
import KE.DataFind
import KE.DatumOrd
import HandS.SortKw
import KE.GoesRaise
import HandS.TryOnly
import KE.KTab
import PySem.Challenge.RW_walkframe_k32_frames_letter_by_letter
set_option Elab.async false
set_option linter.all false
set_option bootstrap.genMatcherCode false
set_option genSizeOf false
set_option maxRecDepth 100000
set_option maxHeartbeats 4000000
namespace Pu
open PySem PySem.Spec PyProof.Rows L2
/-- a new tuple is laid, and stays as it is -/
noncomputable def NT (vs : List V) (H : Hp) (Q : VK) : Prop := ∀ (p : Addr) (ob : Obj), H p = none → ob.dict = none → Q (.ref p) (upd H p (.frz ob (.tup vs)))
section
variable {X : Cx}
theorem NT.lay {pins : List (Addr × Obj)} {σ : L2.St} {H : Hp} {s : Shared} {vs : List V} {us : List Value} {Q : VK} {tk : Tok} (J : Inv X pins σ H s) (r : Vals vs us) (z : vs.length ≤ sizeLine) (q : NT vs H Q) :
    EP X pins σ Q (.ref s.heap.objs.size) { s with heap := s.heap.push { cls := .type "tuple", data := .seq us.toArray }, toks := tk } :=
  ⟨.ref s.heap.objs.size, _, J.laid (t' := tk) (o := .frz { cls := .type "tuple", data := .seq us.toArray } (.tup vs)) (fun _ _ e => Heap.get?_push_of_some _ e) (Nat.le_refl _) ⟨Heap.get?_push_size _ rfl, z, us, r, IsTup.new _ _⟩, rfl, q _ _ (J.hok.fresh (Nat.le_refl _)) rfl⟩
noncomputable def tTupF (t : TA) : TE := fun σ H Q => t σ H fun vs H1 => vs.length ≤ sizeLine ∧ NT vs H1 Q
theorem pe_tupF {es : List Expr} {t : TA} {k : Nat} {pos : Pos} (h : PA X es t) : PE X (.Tuple es k pos) (tTupF t) := ⟨fun pins s σ H Q J h0 =>
  wpAny_Tuple_spliced (thn (h.run pos pins s σ H _ J h0) fun us s1 ⟨vs, H1, J1, r, z, q⟩ => ⟨by rw [← r.length]; exact z, NT.lay (tk := s1.toks) J1 r z q⟩)⟩
theorem cr_tupleF : CallR X (.type "tuple") (fun xs H Q => ∃ p ys, xs = [.ref p] ∧ ((SqL X.K H p ys ∧ NT ys H Q) ∨ (SqT X.K H p ys ∧ Q (.ref p) H))) := by
  intro pins s σ H xs ws Q J r0 h
  obtain ⟨p, ys, rfl, h⟩ := h
  obtain ⟨wv, rfl, rw0⟩ := vals1 r0
  cases rw0
  rcases h with ⟨hl, q⟩ | ⟨ht, q⟩
  · obtain ⟨its, ri, pl, z⟩ := J.list hl
    have hlen := ri.length
    refine call_tuple_list pl.isList (fun h1 kp => ?_) (by simp only [List.size_toArray]; omega)
    have J1 : Inv X pins σ H { s with heap := h1 } := J.kept (t' := s.toks) kp
    exact NT.lay (tk := s.toks) J1 ri z q
  · obtain ⟨its, ri, pl, _⟩ := J.tuple ht
    exact call_tuple_same pl ⟨.ref p, H, J, rfl, q⟩
/-- t + u -/
noncomputable def rCatF (K : PySem.W.Frag) : R2 := fun x y H Q => ∃ a b xs ys, x = .ref a ∧ y = .ref b ∧ SqT K H a xs ∧ SqT K H b ys ∧ xs.length + ys.length ≤ sizeLine ∧ (xs = [] → Q (.ref b) H) ∧ (xs ≠ [] → ys = [] → Q (.ref a) H) ∧ (xs ≠ [] → ys ≠ [] → NT (xs ++ ys) H Q)
theorem op_catF : OpR X (binaryOp .Add) (rCatF X.K) := by
  intro pins s σ H x y v u Q J rx ry h
  obtain ⟨a, b, xs, ys, rfl, rfl, ha, hb, z, q0, q1, q2⟩ := h
  cases rx
  cases ry
  obtain ⟨its, ri, pa', _⟩ := J.tuple ha
  obtain ⟨jts, rj, pb', _⟩ := J.tuple hb
  have nx := ri.nil_iff
  have ny := rj.nil_iff
  by_cases hx : xs = []
  · subst hx
    have e := nx.mpr rfl
    subst e
    exact cat_tup0 pa' pb' ⟨.ref b, H, J, rfl, q0 rfl⟩
  · refine HT.cat_tup pa' pb' (fun e => hx (nx.mp e)) (fun e => ⟨.ref a, H, J, rfl, q1 hx (ny.mp e)⟩) (fun e => ?_) (by rw [← ri.length, ← rj.length]; exact z)
    exact NT.lay (tk := s.toks) J (ri.append rj) (by rw [List.length_append]; exact z) (q2 hx fun w => e (ny.mpr w))
/-- t[lo:hi] -/
noncomputable def rSlF (K : PySem.W.Frag) : V → Option Int → Option Int → Hp → VK → Prop := fun x lo hi H Q => ∃ a xs, x = .ref a ∧ SqT K H a xs ∧
  (HT.sIx xs.length 0 lo = 0 ∧ HT.sIx xs.length xs.length hi = xs.length → Q (.ref a) H) ∧ (¬ (HT.sIx xs.length 0 lo = 0 ∧ HT.sIx xs.length xs.length hi = xs.length) → NT (cutV xs lo hi) H Q)
theorem sl_tupF : SlR X (rSlF X.K) := by
  intro pins s σ H x v vl vu lo hi sl Q J rx hs pl pu h
  obtain ⟨a, xs, rfl, hx, q1, q2⟩ := h
  cases rx
  obtain ⟨its, ri, ht, z⟩ := J.tuple hx
  have hn : its.toArray.size = xs.length := by rw [List.size_toArray, ri.length]
  refine ⟨"tuple", _, PyProof.Rows.slot_tuple_getitem.lookup, ht.typeIs, ?_⟩
  by_cases hw : HT.sIx xs.length 0 lo = 0 ∧ HT.sIx xs.length xs.length hi = xs.length
  · exact getItem_tuple_whole ht hs pl pu (by rw [hn]; exact hw) ⟨.ref a, H, J, rfl, q1 hw⟩
  · refine HT.getItem_tuple_cut ht hs pl pu (by rw [hn]; exact hw) ?_ (by rw [hn]; exact z)
    rw [hn]
    exact NT.lay (tk := s.toks) J ((ri.drop (HT.sIx xs.length 0 lo)).take (HT.sIx xs.length xs.length hi - HT.sIx xs.length 0 lo)) (Nat.le_trans (cutV_length xs lo hi) z) (q2 hw)
end
end Pu
set_option Elab.async false
set_option linter.all false
set_option maxRecDepth 100000
namespace Pu
open PySem PySem.Spec PyProof.Rows L2
/-- a value: data by value; what is changed in place by its number in the store -/
inductive D where
  | non | bl (b : Bool) | int (i : Int) | str (x : Str) | tup (xs : List D) | tpi (xs : List D) | lst (xs : List D) | fls (xs : List D) | dct (kvs : List (Key × D)) | ref (n : Nat)
/-- an object of the store -/
inductive DO where
  | lst (xs : List D) | dct (kvs : List (Key × D)) | ins (c : Str) (fs : List (Str × D)) | fdc (od : Obj) (vs : List (Key × V)) (kvs : List (Key × D))
noncomputable abbrev En := List (Option D)
noncomputable abbrev Sto := List DO
inductive Res (α : Type) where
  | ok (a : α) (S : Sto) | exc (c : Str) (S : Sto) | bad
inductive SRes where
  | next (e : En) (S : Sto) | ret (d : D) (S : Sto) | brk (e : En) (S : Sto) | cnt (e : En) (S : Sto) | exc (c : Str) (e : En) (S : Sto) | bad
noncomputable abbrev Ev (α : Type) := En → Sto → Res α
noncomputable abbrev Stm := En → Sto → SRes
noncomputable def Res.bind {α β : Type} (r : Res α) (k : α → Sto → Res β) : Res β := match r with
  | .ok a S => k a S
  | .exc c S => .exc c S
  | .bad => .bad
@[simp] theorem Res.bind_ok {α β : Type} {a : α} {S : Sto} {k : α → Sto → Res β} : (Res.ok a S).bind k = k a S := id rfl
@[simp] theorem Res.bind_exc {α β : Type} {c : Str} {S : Sto} {k : α → Sto → Res β} : (Res.exc c S).bind k = .exc c S := id rfl
@[simp] theorem Res.bind_bad {α β : Type} {k : α → Sto → Res β} : (Res.bad).bind k = .bad := id rfl
/-- a value, or nothing is promised -/
noncomputable def opt {α : Type} (o : Option α) (S : Sto) : Res α := match o with
  | some a => .ok a S
  | none => .bad
@[simp] theorem opt_some {α : Type} {a : α} {S : Sto} : opt (some a) S = .ok a S := id rfl
@[simp] theorem opt_none {α : Type} {S : Sto} : opt (none : Option α) S = .bad := id rfl
/-- the addresses of the store's objects, by number; all addresses that no value may have by its data (those and the reserved ones) -/
structure AM where
  ad : List Addr
  no : List Addr
  sub : ∀ a, a ∈ ad → a ∈ no
noncomputable def TupAt (K : PySem.W.Frag) (am : AM) (H : Hp) (a : Addr) (vs : List V) : Prop :=
  (∃ o : Obj, H a = some (.frz o (.tup vs)) ∧ o.dict = none ∧ a ∉ am.no) ∨ ∃ (o : Obj) (its : Array Value) (n : Nat), K.lookup a = some o ∧ o.cls = .type "tuple" ∧ o.dict = none ∧ o.data = .seq its n ∧ its.size ≤ sizeLine ∧ Vals vs its.toList
theorem TupAt.seq {K : PySem.W.Frag} {am : AM} {H : Hp} {a : Addr} {vs : List V} (h : TupAt K am H a vs) : SqT K H a vs := by
  rcases h with ⟨o, h, _⟩ | ⟨o, its, n, h1, h2, _, h3⟩
  · exact .inl (.inr ⟨o, h⟩)
  · exact .inr ⟨o, its, n, h1, h2, h3⟩
/-- the item of an iterator: read at once -/
noncomputable def TpiAt (am : AM) (H : Hp) (a : Addr) (vs : List V) : Prop := Rd H a (.tup vs) ∧ a ∉ am.no
noncomputable def LstAt (K : PySem.W.Frag) (am : AM) (H : Hp) (a : Addr) (vs : List V) : Prop :=
  (Rd H a (.lst vs) ∧ a ∉ am.no) ∨ ∃ (o : Obj) (its : Array Value) (n : Nat), K.lookup a = some o ∧ o.cls = .type "list" ∧ o.dict = none ∧ o.data = .seq its n ∧ its.size ≤ sizeLine ∧ Vals vs its.toList
theorem LstAt.seq {K : PySem.W.Frag} {am : AM} {H : Hp} {a : Addr} {vs : List V} (h : LstAt K am H a vs) : SqL K H a vs := by
  rcases h with ⟨h, _⟩ | h
  · exact .inl h
  · exact .inr h
mutual
inductive VR (K : PySem.W.Frag) (am : AM) (H : Hp) : D → V → Prop
  | non : VR K am H .non .non
  | bl (b : Bool) : VR K am H (.bl b) (.bl b)
  | int (i : Int) : VR K am H (.int i) (.int i)
  | str (x : Str) : VR K am H (.str x) (.str x)
  | tup {a : Addr} {vs : List V} {ds : List D} : TupAt K am H a vs → VRs K am H ds vs → VR K am H (.tup ds) (.ref a)
  | tpi {a : Addr} {vs : List V} {ds : List D} : TpiAt am H a vs → VRs K am H ds vs → VR K am H (.tpi ds) (.ref a)
  | lst {a : Addr} {vs : List V} {ds : List D} : H a = some (.lst vs) → a ∉ am.no → VRs K am H ds vs → VR K am H (.lst ds) (.ref a)
  | fls {a : Addr} {vs : List V} {ds : List D} : LstAt K am H a vs → VRs K am H ds vs → VR K am H (.fls ds) (.ref a)
  | dct {a : Addr} {vs : List (Key × V)} {ds : List (Key × D)} : H a = some (.dK vs) → a ∉ am.no → VRk K am H ds vs → VR K am H (.dct ds) (.ref a)
  | ref {n : Nat} {a : Addr} : am.ad[n]? = some a → VR K am H (.ref n) (.ref a)
inductive VRs (K : PySem.W.Frag) (am : AM) (H : Hp) : List D → List V → Prop
  | nil : VRs K am H [] []
  | cons {d : D} {v : V} {ds : List D} {vs : List V} : VR K am H d v → VRs K am H ds vs → VRs K am H (d :: ds) (v :: vs)
inductive VRk (K : PySem.W.Frag) (am : AM) (H : Hp) : List (Key × D) → List (Key × V) → Prop
  | nil : VRk K am H [] []
  | cons {k : Key} {d : D} {v : V} {ds : List (Key × D)} {vs : List (Key × V)} : VR K am H d v → VRk K am H ds vs → VRk K am H ((k, d) :: ds) ((k, v) :: vs)
end
/-- what keeps values as they are -/
structure Ext (am am' : AM) (H H' : Hp) : Prop where
  ad : ∀ (n : Nat) (a : Addr), am.ad[n]? = some a → am'.ad[n]? = some a
  keep : ∀ (b : Addr) (o : HO), H b = some o → b ∉ am.no → H' b = some o ∧ b ∉ am'.no
/-- what a step does to the heap: nothing to what is not in the store; new ones of the store are new -/
structure Grow (am am' : AM) (H H' : Hp) : Prop where
  pre : ∃ r, am'.ad = am.ad ++ r
  fresh : ∀ b, b ∈ am'.ad → b ∉ am.ad → H b = none
  freshNo : ∀ b, b ∈ am'.no → b ∉ am.no → H b = none
  noK : ∀ b, b ∈ am.no → b ∈ am'.no
  keep : ∀ b o, H b = some o → b ∉ am.ad → H' b = some o
theorem Grow.get {am am' : AM} {H H' : Hp} (g : Grow am am' H H') {n : Nat} {a : Addr} (h : am.ad[n]? = some a) : am'.ad[n]? = some a := by
  obtain ⟨r, e⟩ := g.pre
  rw [e]
  have hl := (List.getElem?_eq_some_iff.mp h).1
  rw [List.getElem?_append_left hl]
  exact h
theorem Grow.ext {am am' : AM} {H H' : Hp} (g : Grow am am' H H') : Ext am am' H H' := ⟨fun n a h => g.get h, fun b o h n => ⟨g.keep b o h fun z => n (am.sub b z), fun z => by
  have q := g.freshNo b z n
  rw [h] at q; cases q⟩⟩
theorem Grow.refl {am : AM} {H : Hp} : Grow am am H H := ⟨⟨[], by simp⟩, fun _ h h' => absurd h h', fun _ h h' => absurd h h', fun _ h => h, fun _ _ h _ => h⟩
theorem Grow.trans {a b c : AM} {H H1 H2 : Hp} (g : Grow a b H H1) (g' : Grow b c H1 H2) : Grow a c H H2 := by
  obtain ⟨r, e⟩ := g.pre
  obtain ⟨r', e'⟩ := g'.pre
  have ina : ∀ x o, H x = some o → x ∉ a.ad → x ∉ b.ad := fun x o h n hb => by
    have z := g.fresh x hb n
    rw [h] at z; cases z
  refine ⟨⟨r ++ r', by rw [e', e, List.append_assoc]⟩, fun x hx n => ?_, fun x hx n => ?_, fun x hx => g'.noK x (g.noK x hx), fun x o h n => g'.keep x o (g.keep x o h n) (ina x o h n)⟩
  · cases q : H x with
    | none => rfl
    | some o =>
      have h1 := g.keep x o q n
      have h2 := g'.fresh x hx (ina x o q n)
      rw [h1] at h2; cases h2
  · cases q : H x with
    | none => rfl
    | some o =>
      have n1 : x ∉ a.ad := fun z => n (a.sub x z)
      have h1 := g.keep x o q n1
      have nb : x ∉ b.no := fun z => by
        have q2 := g.freshNo x z n
        rw [q] at q2; cases q2
      have h2 := g'.freshNo x hx nb
      rw [h1] at h2; cases h2
theorem Ext.rd {am am' : AM} {H H' : Hp} (g : Ext am am' H H') {b : Addr} {u : HO} (h : Rd H b u) (n : b ∉ am.no) : Rd H' b u ∧ b ∉ am'.no := by
  rcases h with h | ⟨o, h⟩
  · exact ⟨.inl (g.keep _ _ h n).1, (g.keep _ _ h n).2⟩
  · exact ⟨.inr ⟨o, (g.keep _ _ h n).1⟩, (g.keep _ _ h n).2⟩
theorem TupAt.ext {K : PySem.W.Frag} {am am' : AM} {H H' : Hp} (g : Ext am am' H H') {a : Addr} {vs : List V} (h : TupAt K am H a vs) : TupAt K am' H' a vs := by
  rcases h with ⟨o, h, d, n⟩ | h
  · exact .inl ⟨o, (g.keep _ _ h n).1, d, (g.keep _ _ h n).2⟩
  · exact .inr h
theorem TpiAt.ext {am am' : AM} {H H' : Hp} (g : Ext am am' H H') {a : Addr} {vs : List V} (h : TpiAt am H a vs) : TpiAt am' H' a vs := g.rd h.1 h.2
theorem LstAt.ext {K : PySem.W.Frag} {am am' : AM} {H H' : Hp} (g : Ext am am' H H') {a : Addr} {vs : List V} (h : LstAt K am H a vs) : LstAt K am' H' a vs := by
  rcases h with ⟨h, n⟩ | h
  · exact .inl (g.rd h n)
  · exact .inr h
section
variable {K : PySem.W.Frag} {am am' : AM} {H H' : Hp}
mutual
theorem VR.ext (g : Ext am am' H H') : ∀ {d : D} {v : V}, VR K am H d v → VR K am' H' d v
  | _, _, .non => .non
  | _, _, .bl b => .bl b
  | _, _, .int i => .int i
  | _, _, .str x => .str x
  | _, _, .tup h hs => .tup (h.ext g) (VRs.ext g hs)
  | _, _, .tpi h hs => .tpi (h.ext g) (VRs.ext g hs)
  | _, _, .lst h n hs => .lst (g.keep _ _ h n).1 (g.keep _ _ h n).2 (VRs.ext g hs)
  | _, _, .fls h hs => .fls (h.ext g) (VRs.ext g hs)
  | _, _, .dct h n hs => .dct (g.keep _ _ h n).1 (g.keep _ _ h n).2 (VRk.ext g hs)
  | _, _, .ref h => .ref (g.ad _ _ h)
theorem VRs.ext (g : Ext am am' H H') : ∀ {ds : List D} {vs : List V}, VRs K am H ds vs → VRs K am' H' ds vs
  | _, _, .nil => .nil
  | _, _, .cons h t => .cons (VR.ext g h) (VRs.ext g t)
theorem VRk.ext (g : Ext am am' H H') : ∀ {ds : List (Key × D)} {vs : List (Key × V)}, VRk K am H ds vs → VRk K am' H' ds vs
  | _, _, .nil => .nil
  | _, _, .cons h t => .cons (VR.ext g h) (VRk.ext g t)
end
theorem VR.mono (g : Grow am am' H H') {d : D} {v : V} (h : VR K am H d v) : VR K am' H' d v := h.ext g.ext
theorem VRs.mono (g : Grow am am' H H') {ds : List D} {vs : List V} (h : VRs K am H ds vs) : VRs K am' H' ds vs := h.ext g.ext
theorem VRk.mono (g : Grow am am' H H') {ds : List (Key × D)} {vs : List (Key × V)} (h : VRk K am H ds vs) : VRk K am' H' ds vs := h.ext g.ext
end
noncomputable abbrev VRf (K : PySem.W.Frag) (am : AM) (H : Hp) : List (Str × D) → List (Str × V) → Prop := Paired fun p q => p.1 = q.1 ∧ VR K am H p.2 q.2
noncomputable def OR (K : PySem.W.Frag) (cl : Str → Addr) (am : AM) (H : Hp) (a : Addr) : DO → Prop
  | .lst ds => ∃ vs, H a = some (.lst vs) ∧ VRs K am H ds vs
  | .dct ds => ∃ vs, H a = some (.dK vs) ∧ VRk K am H ds vs
  | .ins c fs => ∃ dx vs, H a = some (.ins (cl c) dx vs) ∧ VRf K am H fs vs
  | .fdc od vs ds => H a = some (.frz od (.dK vs)) ∧ VRk K am H ds vs
structure RelS (K : PySem.W.Frag) (cl : Str → Addr) (am : AM) (S : Sto) (H : Hp) : Prop where
  len : am.ad.length = S.length
  nd : am.ad.Nodup
  ob : ∀ (k : Nat) (o : DO) (a : Addr), S[k]? = some o → am.ad[k]? = some a → OR K cl am H a o
  there : ∀ a, a ∈ am.no → ∃ o, H a = some o
/-- slots -/
structure RelE (K : PySem.W.Frag) (am : AM) (H : Hp) (e : En) (σ : L2.St) : Prop where
  len : e.length = σ.length
  get : ∀ (i : Nat) (d : D), e[i]? = some (some d) → ∃ v, σ[i]? = some (some v) ∧ VR K am H d v
/-- slots forgotten -/
noncomputable def wipeE (e : En) : List Nat → En
  | [] => e
  | v :: vs => (wipeE e vs).set v none
section
variable {K : PySem.W.Frag} {cl : Str → Addr} {am am' : AM} {H H' : Hp} {S S' : Sto}
theorem RelE.ext (g : Ext am am' H H') {e : En} {σ : L2.St} (r : RelE K am H e σ) : RelE K am' H' e σ := ⟨r.len, fun i d h => by
  obtain ⟨v, h1, h2⟩ := r.get i d h
  exact ⟨v, h1, h2.ext g⟩⟩
theorem RelE.mono (g : Grow am am' H H') {e : En} {σ : L2.St} (r : RelE K am H e σ) : RelE K am' H' e σ := r.ext g.ext
theorem RelE.set {e : En} {σ : L2.St} (r : RelE K am H e σ) (i : Nat) {d : D} {v : V} (h : VR K am H d v) : RelE K am H (e.set i (some d)) (σ.set i (some v)) := ⟨by rw [List.length_set, List.length_set]; exact r.len, fun j x hx => by
  by_cases hj : i = j
  · subst hj
    rw [List.getElem?_set_self'] at hx ⊢
    cases q : e[i]? with
    | none => rw [q] at hx; cases hx
    | some z =>
      rw [q] at hx
      have e1 : d = x := Option.some.inj (Option.some.inj hx)
      subst e1
      have hi := (List.getElem?_eq_some_iff.mp q).1
      rw [r.len] at hi
      rw [List.getElem?_eq_getElem hi]
      exact ⟨v, rfl, h⟩
  · rw [List.getElem?_set_ne hj] at hx ⊢
    exact r.get j x hx⟩
theorem RelE.wipe1 {e : En} {σ : L2.St} (r : RelE K am H e σ) (i : Nat) : RelE K am H (e.set i none) σ := ⟨by rw [List.length_set]; exact r.len, fun j x hx => by
  by_cases hj : i = j
  · subst hj
    rw [List.getElem?_set_self'] at hx
    cases q : e[i]? with
    | none => rw [q] at hx; cases hx
    | some z =>
      rw [q] at hx
      cases Option.some.inj hx
  · rw [List.getElem?_set_ne hj] at hx
    exact r.get j x hx⟩
theorem RelE.forget {e : En} {σ : L2.St} (r : RelE K am H e σ) : ∀ vs, RelE K am H (wipeE e vs) σ
  | [] => r
  | v :: vs => (RelE.forget r vs).wipe1 v
theorem RelE.wipe {e : En} {σ : L2.St} (r : RelE K am H e σ) : ∀ vs, RelE K am H (wipeE e vs) (L2.wipe σ vs)
  | [] => r
  | v :: vs => by
    have q := RelE.wipe r vs
    refine ⟨?_, fun j x hx => ?_⟩
    · show ((wipeE e vs).set v none).length = ((L2.wipe σ vs).set v none).length
      rw [List.length_set, List.length_set]
      exact q.len
    · have hx' : ((wipeE e vs).set v none)[j]? = some (some x) := hx
      show ∃ y, ((L2.wipe σ vs).set v none)[j]? = some (some y) ∧ _
      by_cases hj : v = j
      · subst hj
        rw [List.getElem?_set_self'] at hx'
        cases q : (wipeE e vs)[v]? with
        | none => rw [q] at hx'; cases hx'
        | some z =>
          rw [q] at hx'
          cases Option.some.inj hx'
      · rw [List.getElem?_set_ne hj] at hx' ⊢
        exact q.get j x hx'
theorem RelS.has {k : Nat} {o : DO} (r : RelS K cl am S H) (h : S[k]? = some o) : ∃ a, am.ad[k]? = some a ∧ OR K cl am H a o := by
  have hk := (List.getElem?_eq_some_iff.mp h).1
  have hk' : k < am.ad.length := by rw [r.len]; exact hk
  exact ⟨am.ad[k], List.getElem?_eq_getElem hk', r.ob k o _ h (List.getElem?_eq_getElem hk')⟩
theorem OR.ext (g : Ext am am' H H') {a : Addr} {o : DO} (h : OR K cl am H a o) (k : ∀ u, H a = some u → H' a = some u) : OR K cl am' H' a o := by
  cases o with
  | lst ds => obtain ⟨vs, h1, h2⟩ := h; exact ⟨vs, k _ h1, h2.ext g⟩
  | dct ds => obtain ⟨vs, h1, h2⟩ := h; exact ⟨vs, k _ h1, h2.ext g⟩
  | ins c fs => obtain ⟨dx, vs, h1, h2⟩ := h; exact ⟨dx, vs, k _ h1, Paired.mapP h2 fun p q z => ⟨z.1, z.2.ext g⟩⟩
  | fdc od vs ds => exact ⟨k _ h.1, h.2.ext g⟩
theorem OR.mono (g : Grow am am' H H') {a : Addr} {o : DO} (h : OR K cl am H a o) (k : ∀ u, H a = some u → H' a = some u) : OR K cl am' H' a o := h.ext g.ext k
theorem RelS.new (r : RelS K cl am S H) {p : Addr} (h : H p = none) : p ∉ am.no := fun hp => by
  obtain ⟨o, e⟩ := r.there p hp
  rw [h] at e; cases e
/-- a new object that is not of the store -/
theorem Grow.upd {o : HO} {p : Addr} (h : H p = none) : Grow am am H (upd H p o) := ⟨⟨[], by simp⟩, fun _ h h' => absurd h h', fun _ h h' => absurd h h', fun _ h => h, fun b u hb _ => by
  rw [upd_ne (ne_of_none hb h)]
  exact hb⟩
theorem RelS.upd (r : RelS K cl am S H) {o : HO} {p : Addr} (h : H p = none) : RelS K cl am S (upd H p o) :=
  ⟨r.len, r.nd, fun k u a h1 h2 => (r.ob k u a h1 h2).mono (Grow.upd h) fun w hw => by rw [upd_ne (ne_of_none hw h)]; exact hw, fun a ha => by
    obtain ⟨u, e⟩ := r.there a ha
    exact ⟨u, by rw [upd_ne (ne_of_none e h)]; exact e⟩⟩
/-- an object of the store is changed -/
theorem Grow.put {a : Addr} {o : HO} (h : a ∈ am.ad) : Grow am am H (L2.upd H a o) := ⟨⟨[], by simp⟩, fun _ h h' => absurd h h', fun _ h h' => absurd h h', fun _ h => h, fun b u hb nb => by
  rw [upd_ne (show b ≠ a from fun e => nb (by rw [e]; exact h))]
  exact hb⟩
theorem RelS.put {k : Nat} {a : Addr} {o : DO} {u : HO} (r : RelS K cl am S H) (hk : am.ad[k]? = some a) (h : OR K cl am (L2.upd H a u) a o) : RelS K cl am (S.set k o) (L2.upd H a u) := by
  have hm : a ∈ am.ad := List.mem_of_getElem? hk
  refine ⟨by rw [List.length_set]; exact r.len, r.nd, fun j w b h1 h2 => ?_, fun b hb => ?_⟩
  · by_cases hj : k = j
    · subst hj
      rw [hk] at h2
      cases h2
      have hl : k < S.length := by rw [← r.len]; exact (List.getElem?_eq_some_iff.mp hk).1
      rw [List.getElem?_set_self hl] at h1
      cases h1
      exact h
    · rw [List.getElem?_set_ne hj] at h1
      refine (r.ob j w b h1 h2).mono (Grow.put hm) fun z hz => ?_
      rw [upd_ne]
      · exact hz
      · intro e
        subst e
        exact hj (nd_ix r.nd hk h2)
  · by_cases e : b = a
    · exact ⟨u, by rw [e]; exact upd_same⟩
    · obtain ⟨w, q⟩ := r.there b hb
      exact ⟨w, by rw [upd_ne e]; exact q⟩
/-- an address is kept for a new object -/
noncomputable def AM.resv (am : AM) (a : Addr) : AM := ⟨am.ad, a :: am.no, fun b hb => List.mem_cons_of_mem _ (am.sub b hb)⟩
/-- .. it comes into the store -/
noncomputable def AM.push (am : AM) (a : Addr) (h : a ∈ am.no) : AM := ⟨am.ad ++ [a], am.no, fun b hb => by
  rcases List.mem_append.mp hb with hb | hb
  · exact am.sub b hb
  · have e : b = a := by simpa using hb
    rw [e]
    exact h⟩
/-- .. it does not -/
noncomputable def AM.free (am : AM) (a : Addr) (h : a ∉ am.ad) : AM := ⟨am.ad, am.no.filter fun b => decide (b ≠ a), fun b hb => List.mem_filter.mpr ⟨am.sub b hb, decide_eq_true fun e => h (by rw [← e]; exact hb)⟩⟩
theorem AM.free_not {a : Addr} (h : a ∉ am.ad) : a ∉ (am.free a h).no := fun z => (of_decide_eq_true (List.mem_filter.mp z).2) rfl
theorem Grow.resv {a : Addr} {o : HO} (h : H a = none) : Grow am (am.resv a) H (L2.upd H a o) := ⟨⟨[], by simp [AM.resv]⟩, fun _ h h' => absurd h h', fun b hb nb => by
  rcases List.mem_cons.mp hb with e | hb
  · rw [e]; exact h
  · exact absurd hb nb, fun b hb => List.mem_cons_of_mem _ hb, fun b u hb _ => by rw [upd_ne (ne_of_none hb h)]; exact hb⟩
theorem RelS.resv (r : RelS K cl am S H) {a : Addr} {o : HO} (h : H a = none) : RelS K cl (am.resv a) S (L2.upd H a o) :=
  ⟨r.len, r.nd, fun k u b h1 h2 => (r.ob k u b h1 h2).mono (Grow.resv h) fun w hw => by rw [upd_ne (ne_of_none hw h)]; exact hw, fun b hb => by
    rcases List.mem_cons.mp hb with e | hb
    · exact ⟨o, by rw [e]; exact upd_same⟩
    · obtain ⟨u, e⟩ := r.there b hb
      exact ⟨u, by rw [upd_ne (ne_of_none e h)]; exact e⟩⟩
theorem Ext.push {a : Addr} (h : a ∈ am.no) : Ext am (am.push a h) H H := ⟨fun n b hb => by
  show (am.ad ++ [a])[n]? = some b
  rw [List.getElem?_append_left (List.getElem?_eq_some_iff.mp hb).1]
  exact hb, fun b o hb nb => ⟨hb, nb⟩⟩
theorem Ext.free {a : Addr} (h : a ∉ am.ad) : Ext am (am.free a h) H H := ⟨fun n b hb => hb, fun b o hb nb => ⟨hb, fun z => nb (List.mem_filter.mp z).1⟩⟩
theorem Grow.push {a : Addr} (g : Grow am am' H H') (h : a ∈ am'.no) (n : H a = none) : Grow am (am'.push a h) H H' := by
  obtain ⟨r, e⟩ := g.pre
  refine ⟨⟨r ++ [a], by show am'.ad ++ [a] = _; rw [e, List.append_assoc]⟩, fun b hb nb => ?_, g.freshNo, g.noK, g.keep⟩
  rcases List.mem_append.mp hb with hb | hb
  · exact g.fresh b hb nb
  · have e : b = a := by simpa using hb
    rw [e]
    exact n
theorem Grow.free {a : Addr} (g : Grow am am' H H') (h : a ∉ am'.ad) (n : a ∉ am.no) : Grow am (am'.free a h) H H' := ⟨g.pre, g.fresh, fun b hb nb => g.freshNo b (List.mem_filter.mp hb).1 nb, fun b hb => List.mem_filter.mpr ⟨g.noK b hb, decide_eq_true fun e => n (by rw [← e]; exact hb)⟩, g.keep⟩
theorem RelS.push (r : RelS K cl am S H) {a : Addr} {o : DO} (h : a ∈ am.no) (n : a ∉ am.ad) (ho : OR K cl am H a o) : RelS K cl (am.push a h) (S ++ [o]) H := by
  refine ⟨?_, ?_, fun k u b h1 h2 => ?_, r.there⟩
  · show (am.ad ++ [a]).length = (S ++ [o]).length
    rw [List.length_append, List.length_append, r.len]
    rfl
  · show (am.ad ++ [a]).Nodup
    exact nd_snoc r.nd n
  · have h2 : (am.ad ++ [a])[k]? = some b := h2
    by_cases hk : k < S.length
    · rw [List.getElem?_append_left hk] at h1
      rw [List.getElem?_append_left (by rw [r.len]; exact hk)] at h2
      exact (r.ob k u b h1 h2).ext (Ext.push h) fun _ z => z
    · have hk' : S.length ≤ k := Nat.le_of_not_lt hk
      rw [List.getElem?_append_right hk'] at h1
      rw [List.getElem?_append_right (by rw [r.len]; exact hk'), r.len] at h2
      cases e : k - S.length with
      | zero =>
        rw [e] at h1 h2
        cases h1
        cases h2
        exact ho.ext (Ext.push h) fun _ z => z
      | succ m => rw [e] at h1; simp at h1
theorem RelS.free (r : RelS K cl am S H) {a : Addr} (h : a ∉ am.ad) : RelS K cl (am.free a h) S H :=
  ⟨r.len, r.nd, fun k u b h1 h2 => (r.ob k u b h1 h2).ext (Ext.free h) fun _ z => z, fun b hb => r.there b (List.mem_filter.mp hb).1⟩
end
section
variable {K : PySem.W.Frag} {cl : Str → Addr} {am am' : AM} {H H' : Hp} {S S' : Sto}
theorem VRs.length : ∀ {ds : List D} {vs : List V}, VRs K am H ds vs → ds.length = vs.length
  | _, _, .nil => rfl
  | _, _, .cons _ t => by rw [List.length_cons, List.length_cons, VRs.length t]
theorem VRs.get : ∀ {ds : List D} {vs : List V} {i : Nat} {d : D}, VRs K am H ds vs → ds[i]? = some d → ∃ v, vs[i]? = some v ∧ VR K am H d v
  | _, _, i, _, .nil, h => by simp at h
  | _, _, 0, _, .cons h _, e => by simp at e; subst e; exact ⟨_, rfl, h⟩
  | _, _, i + 1, _, .cons _ t, e => by
    obtain ⟨v, h1, h2⟩ := VRs.get (i := i) t (by simpa using e)
    exact ⟨v, by simpa using h1, h2⟩
theorem VRs.append : ∀ {ds es : List D} {vs us : List V}, VRs K am H ds vs → VRs K am H es us → VRs K am H (ds ++ es) (vs ++ us)
  | _, _, _, _, .nil, h => h
  | _, _, _, _, .cons h t, h' => .cons h (VRs.append t h')
theorem VRs.take : ∀ {ds : List D} {vs : List V} (n : Nat), VRs K am H ds vs → VRs K am H (ds.take n) (vs.take n)
  | _, _, 0, _ => by simpa using VRs.nil
  | _, _, n + 1, .nil => by simpa using VRs.nil
  | _, _, n + 1, .cons h t => by simpa using VRs.cons h (VRs.take n t)
theorem VRs.drop : ∀ {ds : List D} {vs : List V} (n : Nat), VRs K am H ds vs → VRs K am H (ds.drop n) (vs.drop n)
  | _, _, 0, h => by simpa using h
  | _, _, n + 1, .nil => by simpa using VRs.nil
  | _, _, n + 1, .cons h t => by simpa using VRs.drop n t
theorem VRs.setA : ∀ {ds : List D} {vs : List V} (i : Nat) {d : D} {v : V}, VRs K am H ds vs → VR K am H d v → VRs K am H (ds.set i d) (vs.set i v)
  | _, _, _, _, _, .nil, _ => by simpa using VRs.nil
  | _, _, 0, _, _, .cons _ t, h => by simpa using VRs.cons h t
  | _, _, i + 1, _, _, .cons h t, h' => by simpa using VRs.cons h (VRs.setA i t h')
theorem VRs.none_of {ds : List D} {vs : List V} {i : Nat} (h : VRs K am H ds vs) (e : ds[i]? = none) : vs[i]? = none := by
  have h1 := h.length
  have h2 : ds.length ≤ i := List.getElem?_eq_none_iff.mp e
  exact List.getElem?_eq_none_iff.mpr (by omega)
theorem VRs.nil_iff {ds : List D} {vs : List V} (h : VRs K am H ds vs) : vs = [] ↔ ds = [] := by
  cases h with
  | nil => simp
  | cons _ _ => simp
theorem VRs.reverse : ∀ {ds : List D} {vs : List V}, VRs K am H ds vs → VRs K am H ds.reverse vs.reverse
  | _, _, .nil => .nil
  | _, _, .cons h t => by
    rw [List.reverse_cons, List.reverse_cons]
    exact (VRs.reverse t).append (.cons h .nil)
/-- a new tuple -/
theorem VR.tupNew {ds : List D} {vs : List V} {p : Addr} {o : Obj} (r : RelS K cl am S H) (h : VRs K am H ds vs) (hp : H p = none) (ho : o.dict = none) : VR K am (upd H p (.frz o (.tup vs))) (.tup ds) (.ref p) :=
  .tup (.inl ⟨o, upd_same, ho, r.new hp⟩) (h.mono (Grow.upd hp))
theorem VR.lstNew {ds : List D} {vs : List V} {p : Addr} (r : RelS K cl am S H) (h : VRs K am H ds vs) (hp : H p = none) : VR K am (upd H p (.lst vs)) (.lst ds) (.ref p) :=
  .lst upd_same (r.new hp) (h.mono (Grow.upd hp))
end
/-- of an evaluation: R ties the pure result to the real one; W is what is wished of an exception at the slots σ -/
noncomputable def Post (K : PySem.W.Frag) (cl : Str → Addr) (W : WX) (σ : L2.St) {α β : Type} (R : AM → Hp → α → β → Prop) (am : AM) (H : Hp) (r : Res α) (Q : β → Hp → Prop) : Prop := match r with
  | .ok a S => ∀ am' b H', Grow am am' H H' → RelS K cl am' S H' → R am' H' a b → Q b H'
  | .exc c S => ∀ am' H', Grow am am' H H' → RelS K cl am' S H' → W (.ref (cl c)) none σ H'
  | .bad => False
/-- the reading of a pure evaluation -/
noncomputable def TD (K : PySem.W.Frag) (cl : Str → Addr) (W : WX) {α β : Type} (R : AM → Hp → α → β → Prop) (f : Ev α) : L2.St → Hp → (β → Hp → Prop) → Prop := fun σ H Q =>
  ∃ am e S, RelS K cl am S H ∧ RelE K am H e σ ∧ Post K cl W σ R am H (f e S) Q
noncomputable abbrev RB : AM → Hp → Bool → Bool → Prop := fun _ _ a b => a = b
noncomputable def PostS (K : PySem.W.Frag) (cl : Str → Addr) (W : WX) (am : AM) (H : Hp) (r : SRes) (E : Ends) : Prop := match r with
  | .next e S => ∀ am' σ H', Grow am am' H H' → RelS K cl am' S H' → RelE K am' H' e σ → E.nx σ H'
  | .brk e S => ∀ am' σ H', Grow am am' H H' → RelS K cl am' S H' → RelE K am' H' e σ → E.bk σ H'
  | .cnt e S => ∀ am' σ H', Grow am am' H H' → RelS K cl am' S H' → RelE K am' H' e σ → E.ct σ H'
  | .ret d S => ∀ am' v H', Grow am am' H H' → RelS K cl am' S H' → VR K am' H' d v → E.rt v H'
  | .exc c e S => ∀ am' σ H', Grow am am' H H' → RelS K cl am' S H' → RelE K am' H' e σ → W (.ref (cl c)) none σ H'
  | .bad => False
noncomputable def TDs (K : PySem.W.Frag) (cl : Str → Addr) (W : WX) (f : Stm) : TS := fun E σ H => ∃ am e S, RelS K cl am S H ∧ RelE K am H e σ ∧ PostS K cl W am H (f e S) E
section
variable {K : PySem.W.Frag} {cl : Str → Addr} {W : WX} {σ : L2.St} {α β γ δ : Type} {R : AM → Hp → α → β → Prop} {R' : AM → Hp → γ → δ → Prop} {am am' : AM} {H H' : Hp} {S : Sto}
theorem Post.imp {r : Res α} {Q Q' : β → Hp → Prop} (p : Post K cl W σ R am H r Q) (h : ∀ b H', Q b H' → Q' b H') : Post K cl W σ R am H r Q' := by
  cases r with
  | ok a S => exact fun am' b H' g rs rb => h _ _ (p am' b H' g rs rb)
  | exc c S => exact p
  | bad => exact p
/-- a step of an evaluation, then the rest -/
theorem Post.step {r : Res α} {k : α → Sto → Res γ} {Q : δ → Hp → Prop} (p : Post K cl W σ R' am H (r.bind k) Q) :
    Post K cl W σ R am H r (fun b H1 => ∃ am1 S1 a, r = .ok a S1 ∧ Grow am am1 H H1 ∧ RelS K cl am1 S1 H1 ∧ R am1 H1 a b ∧ Post K cl W σ R' am1 H1 (k a S1) Q) := by
  cases r with
  | ok a S =>
    intro am1 b H1 g rs rb
    refine ⟨am1, S, a, rfl, g, rs, rb, ?_⟩
    have p : Post K cl W σ R' am H (k a S) Q := p
    cases e : k a S with
    | ok c S2 =>
      rw [e] at p
      exact fun am2 d H2 g2 rs2 rd => p am2 d H2 (g.trans g2) rs2 rd
    | exc c S2 =>
      rw [e] at p
      exact fun am2 H2 g2 rs2 => p am2 H2 (g.trans g2) rs2
    | bad => rw [e] at p; exact p
  | exc c S => exact p
  | bad => exact p
theorem PostS.grow {r : SRes} {E : Ends} (g : Grow am am' H H') (p : PostS K cl W am H r E) : PostS K cl W am' H' r E := by
  cases r with
  | next e S => exact fun am2 σ H2 g2 rs re => p am2 σ H2 (g.trans g2) rs re
  | brk e S => exact fun am2 σ H2 g2 rs re => p am2 σ H2 (g.trans g2) rs re
  | cnt e S => exact fun am2 σ H2 g2 rs re => p am2 σ H2 (g.trans g2) rs re
  | ret d S => exact fun am2 v H2 g2 rs rv => p am2 v H2 (g.trans g2) rs rv
  | exc c e S => exact fun am2 σ H2 g2 rs re => p am2 σ H2 (g.trans g2) rs re
  | bad => exact p
/-- an evaluation, then a statement's rest -/
noncomputable def Res.stm {α : Type} (r : Res α) (e : En) (k : α → Sto → SRes) : SRes := match r with
  | .ok a S => k a S
  | .exc c S => .exc c e S
  | .bad => .bad
theorem PostS.step {r : Res α} {k : α → Sto → SRes} {E : Ends} {e : En} (re : RelE K am H e σ) (p : PostS K cl W am H (r.stm e k) E) :
    Post K cl W σ R am H r (fun b H1 => ∃ am1 S1 a, r = .ok a S1 ∧ Grow am am1 H H1 ∧ RelS K cl am1 S1 H1 ∧ R am1 H1 a b ∧ PostS K cl W am1 H1 (k a S1) E) := by
  cases r with
  | ok a S =>
    intro am1 b H1 g rs rb
    exact ⟨am1, S, a, rfl, g, rs, rb, PostS.grow g p⟩
  | exc c S => exact fun am' H' g rs => p am' σ H' g rs (re.mono g)
  | bad => exact p
end
@[simp] theorem Res.stm_ok {α : Type} {a : α} {S : Sto} {e : En} {k : α → Sto → SRes} : (Res.ok a S).stm e k = k a S := id rfl
@[simp] theorem Res.stm_exc {α : Type} {c : Str} {S : Sto} {e : En} {k : α → Sto → SRes} : (Res.exc c S : Res α).stm e k = .exc c e S := id rfl
@[simp] theorem Res.stm_bad {α : Type} {e : En} {k : α → Sto → SRes} : (Res.bad : Res α).stm e k = .bad := id rfl
noncomputable def SRes.seq (r : SRes) (k : En → Sto → SRes) : SRes := match r with
  | .next e S => k e S
  | r => r
@[simp] theorem SRes.seq_next {e : En} {S : Sto} {k : En → Sto → SRes} : (SRes.next e S).seq k = k e S := id rfl
@[simp] theorem SRes.seq_ret {d : D} {S : Sto} {k : En → Sto → SRes} : (SRes.ret d S).seq k = .ret d S := id rfl
@[simp] theorem SRes.seq_brk {e : En} {S : Sto} {k : En → Sto → SRes} : (SRes.brk e S).seq k = .brk e S := id rfl
@[simp] theorem SRes.seq_cnt {e : En} {S : Sto} {k : En → Sto → SRes} : (SRes.cnt e S).seq k = .cnt e S := id rfl
@[simp] theorem SRes.seq_exc {c : Str} {e : En} {S : Sto} {k : En → Sto → SRes} : (SRes.exc c e S).seq k = .exc c e S := id rfl
@[simp] theorem SRes.seq_bad {k : En → Sto → SRes} : (SRes.bad).seq k = .bad := id rfl
section
variable {X : Cx}
theorem _root_.L2.PE.imp {e : Expr} {t t' : TE} (h : PE X e t) (i : ∀ σ H Q, t' σ H Q → t σ H Q) : PE X e t' := ⟨fun pins s σ H Q I q => h.run pins s σ H Q I (i σ H Q q)⟩
theorem _root_.L2.PT.imp {e : Expr} {t t' : TT} (h : PT X e t) (i : ∀ σ H Q, t' σ H Q → t σ H Q) : PT X e t' := ⟨fun pins s σ H Q I q => h.run pins s σ H Q I (i σ H Q q)⟩
theorem _root_.L2.PW.imp {e : Expr} {t t' : TT} (h : PW X e t) (i : ∀ σ H Q, t' σ H Q → t σ H Q) : PW X e t' := ⟨fun wh pins s σ H Q I q => h.run wh pins s σ H Q I (i σ H Q q)⟩
theorem _root_.L2.PA.imp {es : List Expr} {t t' : TA} (h : PA X es t) (i : ∀ σ H Q, t' σ H Q → t σ H Q) : PA X es t' := ⟨fun pos pins s σ H Q I q => h.run pos pins s σ H Q I (i σ H Q q)⟩
theorem _root_.L2.PS.imp {st : Stmt} {t t' : TS} (h : PS X st t) (i : ∀ E σ H, t' E σ H → t E σ H) : PS X st t' := ⟨fun pins s σ H E I q => h.run pins s σ H E I (i E σ H q)⟩
theorem _root_.L2.PSs.imp {st : List Stmt} {t t' : TS} (h : PSs X st t) (i : ∀ E σ H, t' E σ H → t E σ H) : PSs X st t' := ⟨fun pins s σ H E I q => h.run pins s σ H E I (i E σ H q)⟩
end
noncomputable abbrev QE (cl : Str → Addr) (W : WX) (X : Cx) (e : Expr) (f : Ev D) : Prop := PE X e (TD X.K cl W (VR X.K) f)
noncomputable abbrev QT (cl : Str → Addr) (W : WX) (X : Cx) (e : Expr) (f : Ev Bool) : Prop := PT X e (TD X.K cl W RB f)
noncomputable abbrev QW (cl : Str → Addr) (W : WX) (X : Cx) (e : Expr) (f : Ev Bool) : Prop := PW X e (TD X.K cl W RB f)
noncomputable abbrev QA (cl : Str → Addr) (W : WX) (X : Cx) (es : List Expr) (f : Ev (List D)) : Prop := PA X es (TD X.K cl W (VRs X.K) f)
noncomputable abbrev QS (cl : Str → Addr) (W : WX) (X : Cx) (st : Stmt) (f : Stm) : Prop := PS X st (TDs X.K cl W f)
noncomputable abbrev QB (cl : Str → Addr) (W : WX) (X : Cx) (st : List Stmt) (f : Stm) : Prop := PSs X st (TDs X.K cl W f)
end Pu
set_option Elab.async false
set_option linter.all false
set_option maxRecDepth 100000
namespace Pu
open PySem PySem.Spec PyProof.Rows L2
/-- a list that may be read -/
noncomputable def lsOf (S : Sto) : D → Option (List D)
  | .lst xs => some xs
  | .fls xs => some xs
  | .ref k => match S[k]? with
    | some (.lst xs) => some xs
    | _ => none
  | _ => none
/-- a list that is not locked -/
noncomputable def lvOf (S : Sto) : D → Option (List D)
  | .lst xs => some xs
  | .ref k => match S[k]? with
    | some (.lst xs) => some xs
    | _ => none
  | _ => none
noncomputable def dcOf (S : Sto) : D → Option (List (Key × D))
  | .dct xs => some xs
  | .ref k => match S[k]? with
    | some (.dct xs) => some xs
    | _ => none
  | _ => none
@[simp] theorem lsOf_lst {S : Sto} {xs : List D} : lsOf S (.lst xs) = some xs := id rfl
@[simp] theorem lsOf_ref {S : Sto} {k : Nat} {xs : List D} (h : S[k]? = some (.lst xs)) : lsOf S (.ref k) = some xs := by
  simp only [lsOf, h]
@[simp] theorem lsOf_fls {S : Sto} {xs : List D} : lsOf S (.fls xs) = some xs := id rfl
@[simp] theorem lvOf_lst {S : Sto} {xs : List D} : lvOf S (.lst xs) = some xs := id rfl
@[simp] theorem lvOf_ref {S : Sto} {k : Nat} {xs : List D} (h : S[k]? = some (.lst xs)) : lvOf S (.ref k) = some xs := by
  simp only [lvOf, h]
@[simp] theorem dcOf_dct {S : Sto} {xs : List (Key × D)} : dcOf S (.dct xs) = some xs := id rfl
@[simp] theorem dcOf_ref {S : Sto} {k : Nat} {xs : List (Key × D)} (h : S[k]? = some (.dct xs)) : dcOf S (.ref k) = some xs := by
  simp only [dcOf, h]
section
variable {K : PySem.W.Frag} {cl : Str → Addr} {am : AM} {H : Hp} {S : Sto} {d : D} {v : V}
theorem lsOf_ok (r : RelS K cl am S H) (h : VR K am H d v) {xs : List D} (e : lsOf S d = some xs) : ∃ a vs, v = .ref a ∧ SqL K H a vs ∧ VRs K am H xs vs := by
  cases h with
  | lst h1 h2 h3 =>
    cases e
    exact ⟨_, _, rfl, .inl (.inl h1), h3⟩
  | fls h1 h3 =>
    cases e
    exact ⟨_, _, rfl, h1.seq, h3⟩
  | ref h1 =>
    rename_i n a
    simp only [lsOf] at e
    cases q : S[n]? with
    | none => rw [q] at e; cases e
    | some o =>
      rw [q] at e
      cases o with
      | lst ys =>
        cases e
        obtain ⟨vs, h2, h3⟩ := r.ob n _ a q h1
        exact ⟨a, vs, rfl, .inl (.inl h2), h3⟩
      | dct ys => cases e
      | ins c fs => cases e
      | fdc _ _ _ => cases e
  | _ => cases e
theorem lvOf_ok (r : RelS K cl am S H) (h : VR K am H d v) {xs : List D} (e : lvOf S d = some xs) : ∃ a vs, v = .ref a ∧ H a = some (.lst vs) ∧ VRs K am H xs vs := by
  cases h with
  | lst h1 h2 h3 =>
    cases e
    exact ⟨_, _, rfl, h1, h3⟩
  | ref h1 =>
    rename_i n a
    simp only [lvOf] at e
    cases q : S[n]? with
    | none => rw [q] at e; cases e
    | some o =>
      rw [q] at e
      cases o with
      | lst ys =>
        cases e
        obtain ⟨vs, h2, h3⟩ := r.ob n _ a q h1
        exact ⟨a, vs, rfl, h2, h3⟩
      | dct ys => cases e
      | ins c fs => cases e
      | fdc _ _ _ => cases e
  | _ => cases e
theorem dcOf_ok (r : RelS K cl am S H) (h : VR K am H d v) {xs : List (Key × D)} (e : dcOf S d = some xs) : ∃ a vs, v = .ref a ∧ H a = some (.dK vs) ∧ VRk K am H xs vs := by
  cases h with
  | dct h1 h2 h3 =>
    cases e
    exact ⟨_, _, rfl, h1, h3⟩
  | ref h1 =>
    rename_i n a
    simp only [dcOf] at e
    cases q : S[n]? with
    | none => rw [q] at e; cases e
    | some o =>
      rw [q] at e
      cases o with
      | dct ys =>
        cases e
        obtain ⟨vs, h2, h3⟩ := r.ob n _ a q h1
        exact ⟨a, vs, rfl, h2, h3⟩
      | lst ys => cases e
      | ins c fs => cases e
      | fdc _ _ _ => cases e
  | _ => cases e
end
noncomputable def eC (d : D) : Ev D := fun _ S => .ok d S
noncomputable def eVar (i : Nat) : Ev D := fun e S => match e[i]? with
  | some (some d) => .ok d S
  | _ => .bad
section
variable {cl : Str → Addr} {W : WX} {X : Cx}
theorem imp_c {d : D} {v : V} (h : ∀ am H, VR X.K am H d v) : ∀ σ H Q, TD X.K cl W (VR X.K) (eC d) σ H Q → tC v σ H Q := fun σ H Q ⟨am, e, S, rs, re, p⟩ => p am v H .refl rs (h am H)
theorem qe_int {i j pos} : QE cl W X (.Constant (.int i) j pos) (eC (.int i)) := pe_int.imp (imp_c fun _ _ => .int i)
theorem qe_bl {b j pos} : QE cl W X (.Constant (.bool b) j pos) (eC (.bl b)) := pe_bl.imp (imp_c fun _ _ => .bl b)
theorem qe_non {j pos} : QE cl W X (.Constant .none j pos) (eC .non) := pe_non.imp (imp_c fun _ _ => .non)
theorem qv (i : Nat) {x : Str} {pos : Pos} (hN : X.N[i]? = some x := by rfl) (hv : Vis X.env.scope x := by first | exact Or.inl rfl | exact Or.inr (Or.inl rfl) | exact Or.inr (Or.inr rfl)) (hd : (x == ("__debug__" : Str)) = false := by decide)
    (hcd : (x == ("__classdict__" : Str)) = false := by decide) : QE cl W X (.Name x pos) (eVar i) := (pe_var hN hv hd hcd).imp fun σ H Q ⟨am, e, S, rs, re, p⟩ => by
  unfold eVar at p
  cases q : e[i]? with
  | none => rw [q] at p; exact p.elim
  | some z =>
    rw [q] at p
    cases z with
    | none => exact p.elim
    | some d =>
      obtain ⟨v, h1, h2⟩ := re.get i d q
      exact ⟨v, h1, p am v H .refl rs h2⟩
end
noncomputable def e2 (op : D → D → Sto → Res D) (f g : Ev D) : Ev D := fun e S => (f e S).bind fun x S => (g e S).bind fun y S => op x y S
noncomputable def e1 (op : D → Sto → Res D) (f : Ev D) : Ev D := fun e S => (f e S).bind fun x S => op x S
noncomputable def Ok2 (K : PySem.W.Frag) (cl : Str → Addr) (r : R2) (op : D → D → Sto → Res D) : Prop :=
  ∀ (W : WX) (σ : L2.St) (am : AM) (S : Sto) (H : Hp) (d e : D) (v u : V) (Q : VK), RelS K cl am S H → VR K am H d v → VR K am H e u → Post K cl W σ (VR K) am H (op d e S) Q → r v u H Q
noncomputable def Ok1 (K : PySem.W.Frag) (cl : Str → Addr) (r : V → Hp → VK → Prop) (op : D → Sto → Res D) : Prop :=
  ∀ (W : WX) (σ : L2.St) (am : AM) (S : Sto) (H : Hp) (d : D) (v : V) (Q : VK), RelS K cl am S H → VR K am H d v → Post K cl W σ (VR K) am H (op d S) Q → r v H Q
section
variable {cl : Str → Addr} {W : WX} {X : Cx} {a b c : Expr} {f g h : Ev D} {pos : Pos}
theorem imp_2 {r : R2} {op : D → D → Sto → Res D} (ok : Ok2 X.K cl r op) : ∀ σ H Q, TD X.K cl W (VR X.K) (e2 op f g) σ H Q → tOp r (TD X.K cl W (VR X.K) f) (TD X.K cl W (VR X.K) g) σ H Q := fun σ H Q ⟨am, e, S, rs, re, p⟩ =>
  ⟨am, e, S, rs, re, (Post.step p).imp fun x H1 ⟨am1, S1, d1, _, g1, rs1, rv1, p1⟩ =>
    ⟨am1, e, S1, rs1, re.mono g1, (Post.step p1).imp fun y H2 ⟨am2, S2, d2, _, g2, rs2, rv2, p2⟩ => ok W σ am2 S2 H2 d1 d2 x y Q rs2 (rv1.mono g2) rv2 p2⟩⟩
theorem imp_1 {r : V → Hp → VK → Prop} {op : D → Sto → Res D} (ok : Ok1 X.K cl r op) : ∀ σ H Q, TD X.K cl W (VR X.K) (e1 op f) σ H Q → tUn r (TD X.K cl W (VR X.K) f) σ H Q := fun σ H Q ⟨am, e, S, rs, re, p⟩ =>
  ⟨am, e, S, rs, re, (Post.step p).imp fun x H1 ⟨am1, S1, d1, _, g1, rs1, rv1, p1⟩ => ok W σ am1 S1 H1 d1 x Q rs1 rv1 p1⟩
theorem qe_bin {op : Operator} {r : R2} {o : D → D → Sto → Res D} (ho : OpR X (binaryOp op) r) (ok : Ok2 X.K cl r o) (ha : QE cl W X a f) (hb : QE cl W X b g) : QE cl W X (.BinOp a op b pos) (e2 o f g) := (pe_op ho ha hb).imp (imp_2 ok)
theorem qe_un {op : UnaryOp} {r : V → Hp → VK → Prop} {o : D → Sto → Res D} (ho : UnR X (unaryOp op) r) (ok : Ok1 X.K cl r o) (ha : QE cl W X a f) : QE cl W X (.UnaryOp op a pos) (e1 o f) := (pe_un ho ha).imp (imp_1 ok)
/-- a value that has to be True or False -/
noncomputable def toB (d : D) (S : Sto) : Res Bool := match d with
  | .bl b => .ok b S
  | _ => .bad
@[simp] theorem toB_bl {b : Bool} {S : Sto} : toB (.bl b) S = .ok b S := id rfl
noncomputable def eTB (f : Ev D) : Ev Bool := fun e S => (f e S).bind toB
theorem imp_TB : ∀ σ H Q, TD X.K cl W RB (eTB f) σ H Q → TD X.K cl W (VR X.K) f σ H (fun x H' => ∃ k, x = .bl k ∧ Q k H') := fun σ H Q ⟨am, e, S, rs, re, p⟩ =>
  ⟨am, e, S, rs, re, (Post.step p).imp fun x H1 ⟨am1, S1, d1, _, g1, rs1, rv1, p1⟩ => by
    cases d1 with
    | bl b =>
      cases rv1
      exact ⟨b, rfl, p1 am1 b H1 .refl rs1 rfl⟩
    | _ => exact p1.elim⟩
theorem qe_cmp {op : CmpOp} {r : R2} {o : D → D → Sto → Res D} (ho : OpR X (compareOp op) r) (ok : Ok2 X.K cl r o) (ha : QE cl W X a f) (hb : QE cl W X b g) (hm : behindInMarks op b = false) : QE cl W X (.Compare a [op] [b] pos) (e2 o f g) := (pe_cmpR ho ha hb hm).imp (imp_2 ok)
theorem qt_cmp {op : CmpOp} {r : R2} {o : D → D → Sto → Res D} (ho : OpR X (compareOp op) r) (ok : Ok2 X.K cl r o) (ha : QE cl W X a f) (hb : QE cl W X b g) (hm : behindInMarks op b = false) : QT cl W X (.Compare a [op] [b] pos) (eTB (e2 o f g)) :=
  (pt_cmpR ho ha hb hm).imp fun σ H Q t => imp_2 ok _ _ _ (imp_TB _ _ _ t)
/-- a op1 b op2 c -/
noncomputable def eCh (o o' : D → D → Sto → Res D) (f g h : Ev D) : Ev D := fun e S => (f e S).bind fun x S => (g e S).bind fun y S => (o x y S).bind fun z S => (toB z S).bind fun k S =>
  if k = true then (h e S).bind fun w S => o' y w S else .ok (.bl false) S
/-- what an operation that changes nothing gives -/
noncomputable def Ok2b (K : PySem.W.Frag) (cl : Str → Addr) (r : R2) (op : D → D → Sto → Res D) : Prop := Ok2 K cl r op ∧ ∀ d e S, ∃ o : Option Bool, op d e S = (opt o S).bind fun b S => .ok (.bl b) S
theorem imp_ch {r r' : R2} {o o' : D → D → Sto → Res D} (ok : Ok2b X.K cl r o) (ok' : Ok2 X.K cl r' o') : ∀ σ H Q, TD X.K cl W (VR X.K) (eCh o o' f g h) σ H Q → tChain r r' (TD X.K cl W (VR X.K) f) (TD X.K cl W (VR X.K) g) (TD X.K cl W (VR X.K) h) σ H Q := fun σ H Q ⟨am, e, S, rs, re, p⟩ =>
  ⟨am, e, S, rs, re, (Post.step p).imp fun x H1 ⟨am1, S1, d1, _, g1, rs1, rv1, p1⟩ =>
    ⟨am1, e, S1, rs1, re.mono g1, (Post.step p1).imp fun y H2 ⟨am2, S2, d2, _, g2, rs2, rv2, p2⟩ => by
      obtain ⟨ob, eo⟩ := ok.2 d1 d2 S2
      refine ok.1 W σ am2 S2 H2 d1 d2 x y _ rs2 (rv1.mono g2) rv2 ?_
      rw [eo] at p2 ⊢
      cases ob with
      | none => exact p2.elim
      | some b =>
        intro am3 z H3 g3 rs3 rv3
        cases rv3
        refine ⟨b, rfl, ?_⟩
        have p3 : Post X.K cl W σ (VR X.K) am2 H2 (if b = true then (h e S2).bind fun w S => o' d2 w S else .ok (.bl false) S2) Q := p2
        cases b with
        | false =>
          show Q (.bl false) H3
          exact p3 am3 _ H3 g3 rs3 (.bl false)
        | true =>
          show TD X.K cl W (VR X.K) h σ H3 _
          refine ⟨am3, e, S2, rs3, re.mono (g1.trans (g2.trans g3)), ?_⟩
          have p4 : Post X.K cl W σ (VR X.K) am2 H2 ((h e S2).bind fun w S => o' d2 w S) Q := p3
          have p5 : Post X.K cl W σ (VR X.K) am3 H3 ((h e S2).bind fun w S => o' d2 w S) Q := by
            cases q : (h e S2).bind fun w S => o' d2 w S with
            | ok a S => rw [q] at p4; exact fun am' b H' gg => p4 am' b H' (g3.trans gg)
            | exc c S => rw [q] at p4; exact fun am' H' gg => p4 am' H' (g3.trans gg)
            | bad => rw [q] at p4; exact p4
          exact (Post.step p5).imp fun w H4 ⟨am4, S4, d4, _, g4, rs4, rv4, p6⟩ => ok' W σ am4 S4 H4 d2 d4 y w Q rs4 ((rv2.mono g3).mono g4) rv4 p6⟩⟩
theorem qt_chain {op op' : CmpOp} {r r' : R2} {o o' : D → D → Sto → Res D} (ho : OpR X (compareOp op) r) (ok : Ok2b X.K cl r o) (ho' : OpR X (compareOp op') r') (ok' : Ok2 X.K cl r' o') (ha : QE cl W X a f) (hb : QE cl W X b g) (hc : QE cl W X c h)
    (hm : lastMarks [op, op'] [b, c] = false := by with_unfolding_all rfl) : QT cl W X (.Compare a [op, op'] [b, c] pos) (eTB (eCh o o' f g h)) := (pt_chain ho ho' ha hb hc hm).imp fun σ H Q t => imp_ch ok ok' _ _ _ (imp_TB _ _ _ t)
end
noncomputable def catL (x y : Option (List D)) (S : Sto) : Res D := match x, y with
  | some a, some b => if a.length + b.length ≤ sizeLine then .ok (.lst (a ++ b)) S else .bad
  | _, _ => .bad
noncomputable def addD (d e : D) (S : Sto) : Res D := match d, e with
  | .int a, .int b => .ok (.int (a + b)) S
  | .str a, .str b => if a.length + b.length ≤ sizeLine then .ok (.str (a ++ b)) S else .bad
  | .tup a, .tup b => if a.length + b.length ≤ sizeLine then .ok (.tup (a ++ b)) S else .bad
  | _, _ => catL (lvOf S d) (lvOf S e) S
noncomputable def FitMul (i j : Int) : Prop := (-(2 ^ 64) < i ∧ i < 2 ^ 64) ∨ (-(2 ^ 64) < j ∧ j < 2 ^ 64) ∨ (Builtin.Int.intBits i : Int) + (Builtin.Int.intBits j : Int) ≤ 134217728
noncomputable instance (i j : Int) : Decidable (FitMul i j) := by unfold FitMul; infer_instance
/-- ints in, a value out -/
noncomputable def intD (C : Int → Int → Prop) [∀ i j, Decidable (C i j)] (g : Int → Int → D) (d e : D) (S : Sto) : Res D := match d, e with
  | .int a, .int b => if C a b then .ok (g a b) S else .bad
  | _, _ => .bad
@[simp] theorem intD_int {C : Int → Int → Prop} [∀ i j, Decidable (C i j)] {g : Int → Int → D} {a b : Int} {S : Sto} : intD C g (.int a) (.int b) S = if C a b then .ok (g a b) S else .bad := id rfl
noncomputable abbrev subD := intD (fun _ _ => True) fun i j => .int (i - j)
/-- // and % as Python has them, by a divisor that is not 0 -/
noncomputable def fdivI (i j : Int) : Int := if 0 < j then i / j else (-i) / (-j)
noncomputable def fmodI (i j : Int) : Int := if 0 < j then i % j else -((-i) % (-j))
noncomputable def DivOk (_ j : Int) : Prop := (0 < j ∧ j.natAbs.log2 < 9000) ∨ (j ≠ 0 ∧ j.natAbs < 1073741824)
noncomputable instance (i j : Int) : Decidable (DivOk i j) := by unfold DivOk; infer_instance
noncomputable abbrev fdivD := intD DivOk fun i j => .int (fdivI i j)
noncomputable abbrev modD := intD (fun _ j => j ≠ 0) fun i j => .int (fmodI i j)
noncomputable def PowOk (i j : Int) : Prop := 0 ≤ j ∧ (Builtin.Int.intBits i : Int) * j ≤ 2 ^ 27
noncomputable instance (i j : Int) : Decidable (PowOk i j) := by unfold PowOk; infer_instance
noncomputable abbrev powD := intD PowOk fun i j => .int (i ^ j.toNat)
noncomputable abbrev ltD := intD (fun _ _ => True) fun i j => .bl (decide (i < j))
noncomputable abbrev leD := intD (fun _ _ => True) fun i j => .bl (decide (i ≤ j))
noncomputable abbrev gtD := intD (fun _ _ => True) fun i j => .bl (decide (j < i))
noncomputable abbrev geD := intD (fun _ _ => True) fun i j => .bl (decide (j ≤ i))
theorem fdivI_eq (i j : Int) (h : j ≠ 0) : i.fdiv j = fdivI i j := by
  unfold fdivI
  by_cases h0 : 0 < j
  · rw [if_pos h0, Int.fdiv_eq_ediv_of_nonneg i (by omega)]
  · rw [if_neg h0]
    have e : i.fdiv j = (-i).fdiv (-j) := by rw [Int.neg_fdiv_neg]
    rw [e, Int.fdiv_eq_ediv_of_nonneg _ (by omega)]
theorem fmodI_eq (i j : Int) (h : j ≠ 0) : i.fmod j = fmodI i j := by
  unfold fmodI
  by_cases h0 : 0 < j
  · rw [if_pos h0, Int.fmod_eq_emod_of_nonneg i (by omega)]
  · rw [if_neg h0]
    have e1 : i.fmod j = i - j * i.fdiv j := Int.fmod_def i j
    have e2 : i.fdiv j = (-i) / (-j) := by
      have := fdivI_eq i j h
      unfold fdivI at this
      rw [if_neg h0] at this
      exact this
    have e3 : (-i) % (-j) = -i - (-j) * ((-i) / (-j)) := Int.emod_def _ _
    rw [e1, e2, e3, Int.neg_mul]
    omega
section
variable {cl : Str → Addr} {W : WX} {X : Cx}
theorem ok_intD {C : Int → Int → Prop} [∀ i j, Decidable (C i j)] {g : Int → Int → D} {r : R2} {gv : Int → Int → V} (hg : ∀ am H i j, VR X.K am H (g i j) (gv i j)) (hr : ∀ i j H Q, C i j → Q (gv i j) H → r (.int i) (.int j) H Q) : Ok2 X.K cl r (intD C g) := by
  intro W σ am S H d e v u Q rs h1 h2 p
  cases h1 with
  | int i =>
    cases h2 with
    | int j =>
      rw [intD_int] at p
      by_cases hc : C i j
      · rw [if_pos hc] at p
        exact hr i j H Q hc (p am _ H .refl rs (hg am H i j))
      · rw [if_neg hc] at p
        exact p.elim
    | _ => exact p.elim
  | _ => exact p.elim
theorem ok_add : Ok2 X.K cl (fun x y H Q => (∃ i j, x = .int i ∧ y = .int j ∧ Q (.int (i + j)) H) ∨ (∃ i j, x = .str i ∧ y = .str j ∧ i.length + j.length ≤ sizeLine ∧ Q (.str (i ++ j)) H) ∨ rCatF X.K x y H Q ∨ rCat x y H Q) addD := by
  intro W σ am S H d e v u Q rs h1 h2 p
  have cat : Post X.K cl W σ (VR X.K) am H (catL (lvOf S d) (lvOf S e) S) Q → rCat v u H Q := fun p => by
    cases e1 : lvOf S d with
    | none => rw [e1] at p; exact p.elim
    | some xs =>
      cases e2 : lvOf S e with
      | none => rw [e1, e2] at p; exact p.elim
      | some ys =>
        rw [e1, e2] at p
        obtain ⟨a, vs, ev, r1, hs⟩ := lvOf_ok rs h1 e1
        obtain ⟨b, us, eu, r2, hs2⟩ := lvOf_ok rs h2 e2
        unfold catL at p
        simp only at p
        by_cases hz : xs.length + ys.length ≤ sizeLine
        · rw [if_pos hz] at p
          exact ⟨a, b, vs, us, ev, eu, r1, r2, by rw [← hs.length, ← hs2.length]; exact hz, fun q hq => p am _ _ (Grow.upd hq) (rs.upd hq) (VR.lstNew rs (hs.append hs2) hq)⟩
        · rw [if_neg hz] at p
          exact p.elim
  cases h1 with
  | int i =>
    cases h2 with
    | int j => exact .inl ⟨i, j, rfl, rfl, p am _ H .refl rs (.int _)⟩
    | _ => exact p.elim
  | str x =>
    cases h2 with
    | str y =>
      simp only [addD] at p
      by_cases hz : x.length + y.length ≤ sizeLine
      · rw [if_pos hz] at p
        exact .inr (.inl ⟨x, y, rfl, rfl, hz, p am _ H .refl rs (.str _)⟩)
      · rw [if_neg hz] at p
        exact p.elim
    | _ => exact p.elim
  | @tup a1 vs1 ds1 t1 hs1 =>
    cases h2 with
    | @tup a2 vs2 ds2 t2 hs2 =>
      simp only [addD] at p
      by_cases hz : ds1.length + ds2.length ≤ sizeLine
      · rw [if_pos hz] at p
        refine .inr (.inr (.inl ⟨a1, a2, vs1, vs2, rfl, rfl, t1.seq, t2.seq, by rw [← hs1.length, ← hs2.length]; exact hz, fun e1 => ?_, fun _ e2 => ?_, fun _ _ q ob hq hd => ?_⟩))
        · have e3 := hs1.nil_iff.mp e1
          subst e3
          exact p am _ H .refl rs (.tup t2 hs2)
        · have e3 := hs2.nil_iff.mp e2
          subst e3
          rw [List.append_nil] at p
          exact p am _ H .refl rs (.tup t1 hs1)
        · exact p am _ _ (Grow.upd hq) (rs.upd hq) (VR.tupNew rs (hs1.append hs2) hq hd)
      · rw [if_neg hz] at p
        exact p.elim
    | _ => exact p.elim
  | lst _ _ _ => exact .inr (.inr (.inr (cat (by cases h2 <;> exact p))))
  | ref _ => exact .inr (.inr (.inr (cat (by cases h2 <;> exact p))))
  | _ => cases h2 <;> exact p.elim
theorem op_addD : OpR X (binaryOp .Add) (fun x y H Q => (∃ i j, x = .int i ∧ y = .int j ∧ Q (.int (i + j)) H) ∨ (∃ i j, x = .str i ∧ y = .str j ∧ i.length + j.length ≤ sizeLine ∧ Q (.str (i ++ j)) H) ∨ rCatF X.K x y H Q ∨ rCat x y H Q) :=
  OpR.or (by exact op_add) (OpR.or op_add_str (OpR.or op_catF op_cat))
end
end Pu
set_option Elab.async false
set_option linter.all false
set_option maxRecDepth 100000
namespace Pu
open PySem PySem.Spec PyProof.Rows L2
section
variable {cl : Str → Addr} {W : WX} {X : Cx} {a b c : Expr} {f g h : Ev D} {pos : Pos}
theorem qe_add (ha : QE cl W X a f) (hb : QE cl W X b g) : QE cl W X (.BinOp a .Add b pos) (e2 addD f g) := qe_bin op_addD ok_add ha hb
theorem qe_sub (ha : QE cl W X a f) (hb : QE cl W X b g) : QE cl W X (.BinOp a .Sub b pos) (e2 subD f g) :=
  qe_bin op_sub (ok_intD (gv := fun i j => .int (i - j)) (fun _ _ _ _ => .int _) fun i j H Q _ q => ⟨i, j, rfl, rfl, q⟩) ha hb
/-- * -/
noncomputable def repL (x : Option (List D)) (k : Int) (S : Sto) : Res D := match x with
  | some xs => if -(2 ^ 63) ≤ k ∧ k < 2 ^ 63 ∧ xs.length * k.toNat ≤ sizeLine then .ok (.lst (List.replicate k.toNat xs).flatten) S else .bad
  | none => .bad
noncomputable def mulD (d e : D) (S : Sto) : Res D := match d, e with
  | .int a, .int b => if FitMul a b then .ok (.int (a * b)) S else .bad
  | x, .int k => repL (lvOf S x) k S
  | _, _ => .bad
noncomputable def rMulA : R2 := fun x y H Q => rI CMul (fun i j => .int (i * j)) x y H Q ∨ rI CMulX (fun i j => .int (i * j)) x y H Q ∨ rRep x y H Q
theorem op_mulA : OpR X (binaryOp .Mult) rMulA := OpR.or op_mul (OpR.or op_mulX op_rep)
theorem VRs.replicate {K : PySem.W.Frag} {am : AM} {H : Hp} {ds : List D} {vs : List V} (h : VRs K am H ds vs) : ∀ n, VRs K am H (List.replicate n ds).flatten (List.replicate n vs).flatten
  | 0 => .nil
  | n + 1 => by
    rw [List.replicate_succ, List.replicate_succ, List.flatten_cons, List.flatten_cons]
    exact h.append (VRs.replicate h n)
theorem ok_mul : Ok2 X.K cl rMulA mulD := by
  intro W σ am S H d e v u Q rs h1 h2 p
  have rep : ∀ k, u = .int k → Post X.K cl W σ (VR X.K) am H (repL (lvOf S d) k S) Q → rMulA v u H Q := fun k hu p => by
    cases e1 : lvOf S d with
    | none => rw [e1] at p; exact p.elim
    | some xs =>
      rw [e1] at p
      obtain ⟨a, vs, ev, r1, hs⟩ := lvOf_ok rs h1 e1
      unfold repL at p
      simp only at p
      by_cases hz : -(2 ^ 63) ≤ k ∧ k < 2 ^ 63 ∧ xs.length * k.toNat ≤ sizeLine
      · rw [if_pos hz] at p
        exact .inr (.inr ⟨a, k, vs, ev, hu, r1, hz.1, hz.2.1, by rw [← hs.length]; exact hz.2.2, fun q hq => p am _ _ (Grow.upd hq) (rs.upd hq) (VR.lstNew rs (hs.replicate _) hq)⟩)
      · rw [if_neg hz] at p
        exact p.elim
  cases h2 with
  | int j =>
    cases h1 with
    | int i =>
      simp only [mulD] at p
      by_cases hz : FitMul i j
      · rw [if_pos hz] at p
        have q := p am (.int (i * j)) H .refl rs (.int _)
        rcases hz with hz | hz | hz
        · exact .inl ⟨i, j, rfl, rfl, .inl hz, q⟩
        · exact .inl ⟨i, j, rfl, rfl, .inr hz, q⟩
        · exact .inr (.inl ⟨i, j, rfl, rfl, hz, q⟩)
      · rw [if_neg hz] at p
        exact p.elim
    | _ => exact rep j rfl p
  | _ => cases h1 <;> exact p.elim
theorem qe_mul (ha : QE cl W X a f) (hb : QE cl W X b g) : QE cl W X (.BinOp a .Mult b pos) (e2 mulD f g) := qe_bin op_mulA ok_mul ha hb
theorem op_fdivA : OpR X (binaryOp .FloorDiv) (fun x y H Q => rI CDivW (fun i j => .int (i / j)) x y H Q ∨ rI CDivN (fun i j => .int (i.fdiv j)) x y H Q) := OpR.or op_fdivW op_fdivN
theorem qe_fdiv (ha : QE cl W X a f) (hb : QE cl W X b g) : QE cl W X (.BinOp a .FloorDiv b pos) (e2 fdivD f g) :=
  qe_bin op_fdivA (ok_intD (gv := fun i j => .int (fdivI i j)) (fun _ _ _ _ => .int _) fun i j H Q hc q => by
    rcases hc with hc | hc
    · refine .inl ⟨i, j, rfl, rfl, hc, ?_⟩
      have e : fdivI i j = i / j := if_pos hc.1
      have q' : Q (.int (fdivI i j)) H := q
      rw [e] at q'
      exact q'
    · refine .inr ⟨i, j, rfl, rfl, hc, ?_⟩
      have q' : Q (.int (fdivI i j)) H := q
      rw [← fdivI_eq i j hc.1] at q'
      exact q') ha hb
theorem qe_mod (ha : QE cl W X a f) (hb : QE cl W X b g) : QE cl W X (.BinOp a .Mod b pos) (e2 modD f g) :=
  qe_bin op_modN (ok_intD (gv := fun i j => .int (fmodI i j)) (fun _ _ _ _ => .int _) fun i j H Q hc q => ⟨i, j, rfl, rfl, hc, by
    have q' : Q (.int (fmodI i j)) H := q
    rw [← fmodI_eq i j hc] at q'
    exact q'⟩) ha hb
theorem op_powA : OpR X (binaryOp .Pow) (rI PowOk fun i j => .int (i ^ j.toNat)) := opI fun _ _ _ _ _ _ _ hc q => pow_int hc.1 hc.2 q
theorem qe_pow (ha : QE cl W X a f) (hb : QE cl W X b g) : QE cl W X (.BinOp a .Pow b pos) (e2 powD f g) :=
  qe_bin op_powA (ok_intD (gv := fun i j => .int (i ^ j.toNat)) (fun _ _ _ _ => .int _) fun i j H Q hc q => ⟨i, j, rfl, rfl, hc, q⟩) ha hb
noncomputable def negD (d : D) (S : Sto) : Res D := match d with
  | .int i => .ok (.int (-i)) S
  | _ => .bad
theorem qe_neg (ha : QE cl W X a f) : QE cl W X (.UnaryOp .USub a pos) (e1 negD f) := qe_un un_neg (fun W σ am S H d v Q rs h1 p => by
  cases h1 with
  | int i => exact ⟨i, rfl, p am _ H .refl rs (.int _)⟩
  | _ => exact p.elim) ha
theorem ok_ltD : Ok2 X.K cl (rI0 fun i j => .bl (decide (i < j))) ltD := ok_intD (gv := fun i j => .bl (decide (i < j))) (fun _ _ _ _ => .bl _) fun i j H Q _ q => ⟨i, j, rfl, rfl, q⟩
theorem ok_leD : Ok2 X.K cl (rI0 fun i j => .bl (decide (i ≤ j))) leD := ok_intD (gv := fun i j => .bl (decide (i ≤ j))) (fun _ _ _ _ => .bl _) fun i j H Q _ q => ⟨i, j, rfl, rfl, q⟩
theorem ok_gtD : Ok2 X.K cl (rI0 fun i j => .bl (decide (j < i))) gtD := ok_intD (gv := fun i j => .bl (decide (j < i))) (fun _ _ _ _ => .bl _) fun i j H Q _ q => ⟨i, j, rfl, rfl, q⟩
theorem ok_geD : Ok2 X.K cl (rI0 fun i j => .bl (decide (j ≤ i))) geD := ok_intD (gv := fun i j => .bl (decide (j ≤ i))) (fun _ _ _ _ => .bl _) fun i j H Q _ q => ⟨i, j, rfl, rfl, q⟩
theorem int_opt {C : Int → Int → Prop} [∀ i j, Decidable (C i j)] {p : Int → Int → Bool} (d e : D) (S : Sto) : ∃ o : Option Bool, intD C (fun i j => .bl (p i j)) d e S = (opt o S).bind fun b S => .ok (.bl b) S := by
  cases d with
  | int i =>
    cases e with
    | int j =>
      rw [intD_int]
      by_cases hc : C i j
      · exact ⟨some (p i j), by rw [if_pos hc]; rfl⟩
      · exact ⟨none, by rw [if_neg hc]; rfl⟩
    | _ => exact ⟨none, rfl⟩
  | _ => exact ⟨none, rfl⟩
theorem okb_le : Ok2b X.K cl (rI0 fun i j => .bl (decide (i ≤ j))) leD := ⟨ok_leD, fun d e S => int_opt d e S⟩
theorem qe_gt (ha : QE cl W X a f) (hb : QE cl W X b g) : QE cl W X (.Compare a [.Gt] [b] pos) (e2 gtD f g) := qe_cmp op_gt ok_gtD ha hb (nomark _)
theorem qt_lt (ha : QE cl W X a f) (hb : QE cl W X b g) : QT cl W X (.Compare a [.Lt] [b] pos) (eTB (e2 ltD f g)) := qt_cmp op_lt ok_ltD ha hb (nomark _)
theorem qt_gt (ha : QE cl W X a f) (hb : QE cl W X b g) : QT cl W X (.Compare a [.Gt] [b] pos) (eTB (e2 gtD f g)) := qt_cmp op_gt ok_gtD ha hb (nomark _)
theorem qt_ge (ha : QE cl W X a f) (hb : QE cl W X b g) : QT cl W X (.Compare a [.GtE] [b] pos) (eTB (e2 geD f g)) := qt_cmp op_ge ok_geD ha hb (nomark _)
theorem qt_lelt (ha : QE cl W X a f) (hb : QE cl W X b g) (hc : QE cl W X c h) (hm : lastMarks [.LtE, .Lt] [b, c] = false := by with_unfolding_all rfl) : QT cl W X (.Compare a [.LtE, .Lt] [b, c] pos) (eTB (eCh leD ltD f g h)) := qt_chain op_le okb_le op_lt ok_ltD ha hb hc hm
end
mutual
noncomputable def D.py : D → PyData
  | .non => .none
  | .bl b => .bool b
  | .int i => .int i
  | .str x => .str x
  | .tup xs => .tuple (pys xs)
  | .tpi xs => .tuple (pys xs)
  | .lst xs => .list (pys xs)
  | .fls xs => .list (pys xs)
  | .dct _ => .dict []
  | .ref _ => .dict []
noncomputable def pys : List D → List PyData
  | [] => []
  | x :: xs => x.py :: pys xs
end
/-- data at the top: a list of the store is read -/
noncomputable def pyOf (S : Sto) (d : D) : PyData := match d with
  | .ref k => match S[k]? with
    | some (.lst xs) => .list (pys xs)
    | _ => .dict []
  | d => d.py
section
variable {K : PySem.W.Frag} {cl : Str → Addr} {am : AM} {H : Hp} {S : Sto}
mutual
theorem VR.dp : ∀ {d : D} {v : V}, VR K am H d v → d.py.canLay0 = true → Dp K H v d.py
  | _, _, .non, _ => .non
  | _, _, .bl b, _ => .bl b
  | _, _, .int i, _ => .int i
  | _, _, .str x, _ => .str x
  | _, _, .tup h hs, q => .tup h.seq (VRs.dp hs (by simpa [D.py, PyData.canLay0] using q))
  | _, _, .tpi h hs, q => .tup (.inl h.1) (VRs.dp hs (by simpa [D.py, PyData.canLay0] using q))
  | _, _, .lst h n hs, q => .lst (.inl (.inl h)) (VRs.dp hs (by simpa [D.py, PyData.canLay0] using q))
  | _, _, .fls h hs, q => .lst h.seq (VRs.dp hs (by simpa [D.py, PyData.canLay0] using q))
  | _, _, .dct _ _ _, q => absurd q (by simp [D.py, PyData.canLay0])
  | _, _, .ref _, q => absurd q (by simp [D.py, PyData.canLay0])
theorem VRs.dp : ∀ {ds : List D} {vs : List V}, VRs K am H ds vs → PyData.canLayAll0 (pys ds) = true → DpAll K H vs (pys ds)
  | _, _, .nil, _ => .nil
  | _, _, .cons h t, q => by
    rename_i d v ds vs
    have q' : d.py.canLay0 = true ∧ PyData.canLayAll0 (pys ds) = true := by simpa [pys, PyData.canLayAll0] using q
    exact .cons (VR.dp h q'.1) (VRs.dp t q'.2)
end
theorem dpOf (r : RelS K cl am S H) {d : D} {v : V} (h : VR K am H d v) (q : (pyOf S d).canLay0 = true) : Dp K H v (pyOf S d) := by
  cases d with
  | ref k =>
    unfold pyOf at q ⊢
    simp only at q ⊢
    cases e : S[k]? with
    | none => rw [e] at q; exact absurd q (by simp [PyData.canLay0])
    | some o =>
      rw [e] at q
      cases o with
      | lst xs =>
        cases h with
        | ref h1 =>
          obtain ⟨vs, h2, h3⟩ := r.ob k _ _ e h1
          exact .lst (.inl (.inl h2)) (h3.dp (by simpa [PyData.canLay0] using q))
      | dct _ => exact absurd q (by simp [PyData.canLay0])
      | ins _ _ => exact absurd q (by simp [PyData.canLay0])
      | fdc _ _ _ => exact absurd q (by simp [PyData.canLay0])
  | _ => exact h.dp q
end
noncomputable def eqB (S : Sto) (d e : D) : Bool := PyData.eqv (pyOf S d) (pyOf S e)
noncomputable def shp (S : Sto) (d : D) : Bool := SeqAt.shaped (pyOf S d)
noncomputable def eqD (neg : Bool) (d e : D) (S : Sto) : Res D := if shp S d = true ∧ shp S e = true then .ok (.bl (if neg = true then !eqB S d e else eqB S d e)) S else .bad
section
variable {cl : Str → Addr} {W : WX} {X : Cx} {a b c : Expr} {f g h : Ev D} {pos : Pos}
theorem ok_eq : Ok2 X.K cl (rEqD X.K) (eqD false) := fun W σ am S H d e v u Q rs h1 h2 p => by
  unfold eqD at p
  by_cases hc : shp S d = true ∧ shp S e = true
  · rw [if_pos hc] at p
    exact ⟨_, _, dpOf rs h1 (SeqAt.canLay_of_shaped hc.1), dpOf rs h2 (SeqAt.canLay_of_shaped hc.2), hc.1, hc.2, p am _ H .refl rs (.bl _)⟩
  · rw [if_neg hc] at p
    exact p.elim
theorem ok_ne : Ok2 X.K cl (rNeD X.K) (eqD true) := fun W σ am S H d e v u Q rs h1 h2 p => by
  unfold eqD at p
  by_cases hc : shp S d = true ∧ shp S e = true
  · rw [if_pos hc] at p
    exact ⟨_, _, dpOf rs h1 (SeqAt.canLay_of_shaped hc.1), dpOf rs h2 (SeqAt.canLay_of_shaped hc.2), hc.1, hc.2, p am _ H .refl rs (.bl _)⟩
  · rw [if_neg hc] at p
    exact p.elim
theorem qe_eq {k : Nat} (hr : Room k X.A) (ha : QE cl W X a f) (hb : QE cl W X b g) : QE cl W X (.Compare a [.Eq] [b] pos) (e2 (eqD false) f g) := qe_cmp (op_eqD hr.units) ok_eq ha hb (nomark _)
theorem qt_eq {k : Nat} (hr : Room k X.A) (ha : QE cl W X a f) (hb : QE cl W X b g) : QT cl W X (.Compare a [.Eq] [b] pos) (eTB (e2 (eqD false) f g)) := qt_cmp (op_eqD hr.units) ok_eq ha hb (nomark _)
theorem qt_ne {k : Nat} (hr : Room k X.A) (ha : QE cl W X a f) (hb : QE cl W X b g) : QT cl W X (.Compare a [.NotEq] [b] pos) (eTB (e2 (eqD true) f g)) := qt_cmp (op_neD hr.units) ok_ne ha hb (nomark _)
/-- is None -/
noncomputable def D.isN : D → Bool
  | .non => true
  | _ => false
noncomputable def isND (neg : Bool) (d : D) (S : Sto) : Res D := .ok (.bl (if neg = true then !d.isN else d.isN)) S
theorem isN_eq {K : PySem.W.Frag} {am : AM} {H : Hp} {d : D} {v : V} (h : VR K am H d v) : decide (v = .non) = d.isN := by
  cases h <;> rfl
theorem imp_notN : ∀ σ H Q, TD X.K cl W (VR X.K) (e1 (isND true) f) σ H Q → tNotN (TD X.K cl W (VR X.K) f) σ H Q := fun σ H Q ⟨am, e, S, rs, re, p⟩ =>
  ⟨am, e, S, rs, re, (Post.step p).imp fun x H1 ⟨am1, S1, d1, _, g1, rs1, rv1, p1⟩ => by
    rw [isN_eq rv1]
    exact p1 am1 _ H1 .refl rs1 (.bl _)⟩
theorem qt_notN {j pos'} (ha : QE cl W X a f) : QT cl W X (.Compare a [.IsNot] [.Constant .none j pos'] pos) (eTB (e1 (isND true) f)) := (pt_cmp (pc_notN ha)).imp fun σ H Q t => imp_notN _ _ _ (imp_TB _ _ _ t)
end
noncomputable def tAndD (f g : Ev Bool) : Ev Bool := fun e S => (f e S).bind fun b S => if b = true then g e S else .ok false S
noncomputable def tOrD (f g : Ev Bool) : Ev Bool := fun e S => (f e S).bind fun b S => if b = true then .ok true S else g e S
noncomputable def tNotD (f : Ev Bool) : Ev Bool := fun e S => (f e S).bind fun b S => .ok (!b) S
noncomputable def eAndD (f g : Ev D) : Ev D := fun e S => (f e S).bind fun d S => (toB d S).bind fun b S => if b = true then g e S else .ok (.bl false) S
noncomputable def eOrD (f g : Ev D) : Ev D := fun e S => (f e S).bind fun d S => (toB d S).bind fun b S => if b = true then .ok (.bl true) S else g e S
noncomputable def eNotD (f : Ev D) : Ev D := fun e S => (f e S).bind fun d S => (toB d S).bind fun b S => .ok (.bl (!b)) S
noncomputable def eIf (t : Ev Bool) (f g : Ev D) : Ev D := fun e S => (t e S).bind fun b S => if b = true then f e S else g e S
section
variable {cl : Str → Addr} {W : WX} {X : Cx} {a b c : Expr} {rest : List Expr} {f g : Ev D} {s t : Ev Bool} {pos : Pos}
theorem qw_and1 (ha : QT cl W X a s) : QW cl W X (.BoolOp .And [a] pos) s := pw_and1 ha
theorem qw_or1 (ha : QT cl W X a s) : QW cl W X (.BoolOp .Or [a] pos) s := pw_or1 ha
theorem qw_and (ha : QT cl W X a s) (hb : QW cl W X (.BoolOp .And (b :: rest) pos) t) : QW cl W X (.BoolOp .And (a :: b :: rest) pos) (tAndD s t) := (pw_and ha hb).imp fun σ H Q ⟨am, e, S, rs, re, p⟩ =>
  ⟨am, e, S, rs, re, (Post.step p).imp fun k H1 ⟨am1, S1, k', _, g1, rs1, rk, p1⟩ => by
    have rk : k' = k := rk
    subst rk
    cases k' with
    | true => exact ⟨am1, e, S1, rs1, re.mono g1, p1⟩
    | false => exact p1 am1 _ H1 .refl rs1 rfl⟩
theorem qw_or (ha : QT cl W X a s) (hb : QW cl W X (.BoolOp .Or (b :: rest) pos) t) : QW cl W X (.BoolOp .Or (a :: b :: rest) pos) (tOrD s t) := (pw_or ha hb).imp fun σ H Q ⟨am, e, S, rs, re, p⟩ =>
  ⟨am, e, S, rs, re, (Post.step p).imp fun k H1 ⟨am1, S1, k', _, g1, rs1, rk, p1⟩ => by
    have rk : k' = k := rk
    subst rk
    cases k' with
    | false => exact ⟨am1, e, S1, rs1, re.mono g1, p1⟩
    | true => exact p1 am1 _ H1 .refl rs1 rfl⟩
theorem qt_not (ha : QT cl W X a s) : QT cl W X (.UnaryOp .Not a pos) (tNotD s) := (pt_not ha).imp fun σ H Q ⟨am, e, S, rs, re, p⟩ =>
  ⟨am, e, S, rs, re, (Post.step p).imp fun k H1 ⟨am1, S1, k', _, g1, rs1, rk, p1⟩ => by
    have rk : k' = k := rk
    subst rk
    exact p1 am1 _ H1 .refl rs1 rfl⟩
theorem qe_one {op} (ha : QE cl W X a f) : QE cl W X (.BoolOp op [a] pos) f := pe_one ha
theorem step_b {σ : L2.St} {α : Type} {R : AM → Hp → D → V → Prop} {am : AM} {H : Hp} {S : Sto} {k : Bool → Sto → Res D} {d : D} {x : V} {Q : VK} (rv : VR X.K am H d x) (p : Post X.K cl W σ R am H ((toB d S).bind k) Q) : ∃ b, d = .bl b ∧ x = .bl b ∧ Post X.K cl W σ R am H (k b S) Q := by
  cases rv with
  | bl b => exact ⟨b, rfl, rfl, p⟩
  | _ => exact p.elim
theorem qe_and (ha : QE cl W X a f) (hb : QE cl W X (.BoolOp .And (b :: rest) pos) g) : QE cl W X (.BoolOp .And (a :: b :: rest) pos) (eAndD f g) := (pe_and ha hb).imp fun σ H Q ⟨am, e, S, rs, re, p⟩ =>
  ⟨am, e, S, rs, re, (Post.step p).imp fun x H1 ⟨am1, S1, d, _, g1, rs1, rv, p1⟩ => by
    obtain ⟨k, _, ex, p2⟩ := step_b (α := D) rv p1
    refine ⟨k, ex, ?_⟩
    cases k with
    | true => exact ⟨am1, e, S1, rs1, re.mono g1, p2⟩
    | false => exact p2 am1 _ H1 .refl rs1 (.bl _)⟩
theorem qe_if (hc : QT cl W X c s) (ha : QE cl W X a f) (hb : QE cl W X b g) : QE cl W X (.IfExp c a b pos) (eIf s f g) := (pe_ifExp hc ha hb).imp fun σ H Q ⟨am, e, S, rs, re, p⟩ =>
  ⟨am, e, S, rs, re, (Post.step p).imp fun k H1 ⟨am1, S1, k', _, g1, rs1, rk, p1⟩ => by
    have rk : k' = k := rk
    subst rk
    cases k' with
    | true => exact ⟨am1, e, S1, rs1, re.mono g1, p1⟩
    | false => exact ⟨am1, e, S1, rs1, re.mono g1, p1⟩⟩
/-- a value's truth -/
noncomputable def truD (d : D) (S : Sto) : Res Bool := match d with
  | .non => .ok false S
  | .bl b => .ok b S
  | .int i => .ok (i != 0) S
  | .str x => if x.length ≤ sizeLine then .ok ((x.length : Int) != 0) S else .bad
  | .tup xs => .ok (!xs.isEmpty) S
  | d => match lsOf S d with
    | some xs => .ok (!xs.isEmpty) S
    | none => .bad
noncomputable def eTr (f : Ev D) : Ev Bool := fun e S => (f e S).bind truD
theorem VRs.isEmpty {K : PySem.W.Frag} {am : AM} {H : Hp} {ds : List D} {vs : List V} (h : VRs K am H ds vs) : vs.isEmpty = ds.isEmpty := by
  cases h <;> rfl
theorem tru_ok' {am : AM} {S : Sto} {H : Hp} {d : D} {x : V} {σ : L2.St} {Q : Bool → Hp → Prop} (rs : RelS X.K cl am S H) (rv : VR X.K am H d x) (p : Post X.K cl W σ RB am H (truD d S) Q) : ∃ k, TruV X.K x H k ∧ Q k H := by
  have ls : Post X.K cl W σ RB am H (match lsOf S d with | some xs => .ok (!xs.isEmpty) S | none => .bad) Q → ∃ k, TruV X.K x H k ∧ Q k H := fun p => by
    cases e : lsOf S d with
    | none => rw [e] at p; exact p.elim
    | some xs =>
      rw [e] at p
      obtain ⟨a, vs, ev, r1, hs⟩ := lsOf_ok rs rv e
      subst ev
      exact ⟨!xs.isEmpty, .inl ⟨vs, r1, by rw [hs.isEmpty]⟩, p am _ H .refl rs rfl⟩
  cases rv with
  | non => exact ⟨false, rfl, p am _ H .refl rs rfl⟩
  | bl b => exact ⟨b, rfl, p am _ H .refl rs rfl⟩
  | int i => exact ⟨(i != 0), rfl, p am _ H .refl rs rfl⟩
  | str y =>
    simp only [truD] at p
    by_cases hz : y.length ≤ sizeLine
    · rw [if_pos hz] at p
      exact ⟨((y.length : Int) != 0), ⟨hz, rfl⟩, p am _ H .refl rs rfl⟩
    · rw [if_neg hz] at p
      exact p.elim
  | tup h hs => exact ⟨_, .inr (.inl ⟨_, h.seq, rfl⟩), by rw [hs.isEmpty]; exact p am _ H .refl rs rfl⟩
  | lst _ _ _ => exact ls p
  | fls _ _ => exact ls p
  | ref _ => exact ls p
  | dct _ _ _ => exact p.elim
  | tpi _ _ => exact p.elim
theorem qt_val (ha : QE cl W X a f) (he : ∀ whole, isTrue a X.env whole = (do let v ← whole; standAt a.pos; holding [v] (truthy v)) := by intro _; rfl) : QT cl W X a (eTr f) := (pt_truth ha he).imp fun σ H Q ⟨am, e, S, rs, re, p⟩ =>
  ⟨am, e, S, rs, re, (Post.step p).imp fun x H1 ⟨am1, S1, d, _, g1, rs1, rv, p1⟩ => tru_ok' rs1 rv p1⟩
end
noncomputable def eArgs : List (Ev D) → Ev (List D)
  | [] => fun _ S => .ok [] S
  | f :: fs => fun e S => (f e S).bind fun x S => (eArgs fs e S).bind fun xs S => .ok (x :: xs) S
theorem eArgs_len : ∀ {fs : List (Ev D)} {e : En} {S S' : Sto} {xs : List D}, eArgs fs e S = .ok xs S' → xs.length = fs.length
  | [], _, _, _, _, h => by cases h; rfl
  | f :: fs, e, S, S', xs, h => by
    unfold eArgs at h
    cases e1 : f e S with
    | ok x S1 =>
      rw [e1, Res.bind_ok] at h
      cases e2 : eArgs fs e S1 with
      | ok ys S2 =>
        rw [e2, Res.bind_ok] at h
        cases h
        rw [List.length_cons, List.length_cons, eArgs_len e2]
      | exc c S2 => rw [e2] at h; cases h
      | bad => rw [e2] at h; cases h
    | exc c S1 => rw [e1] at h; cases h
    | bad => rw [e1] at h; cases h
noncomputable def eTup (fs : List (Ev D)) : Ev D := fun e S => (eArgs fs e S).bind fun xs S => .ok (.tup xs) S
noncomputable def eCall (op : List D → Sto → Res D) (fs : List (Ev D)) : Ev D := fun e S => (eArgs fs e S).bind op
noncomputable def OkN (K : PySem.W.Frag) (cl : Str → Addr) (r : List V → Hp → VK → Prop) (op : List D → Sto → Res D) : Prop :=
  ∀ (W : WX) (σ : L2.St) (am : AM) (S : Sto) (H : Hp) (ds : List D) (vs : List V) (Q : VK), RelS K cl am S H → VRs K am H ds vs → Post K cl W σ (VR K) am H (op ds S) Q → r vs H Q
theorem OkN.or {K : PySem.W.Frag} {cl : Str → Addr} {r r' : List V → Hp → VK → Prop} {op op' : List D → Sto → Res D} (h : OkN K cl r op) (h' : OkN K cl r' op') (c : List D → Sto → Bool) : OkN K cl (fun vs H Q => r vs H Q ∨ r' vs H Q) (fun ds S => if c ds S = true then op ds S else op' ds S) :=
  fun W σ am S H ds vs Q rs rv p => by
    by_cases hc : c ds S = true
    · simp only [hc, if_true] at p
      exact .inl (h W σ am S H ds vs Q rs rv p)
    · simp only [hc] at p
      exact .inr (h' W σ am S H ds vs Q rs rv p)
section
variable {cl : Str → Addr} {W : WX} {X : Cx} {a b c : Expr} {es : List Expr} {f g : Ev D} {fs : List (Ev D)} {pos : Pos}
theorem qa_nil : QA cl W X [] (eArgs []) := pa_nil.imp fun σ H Q ⟨am, e, S, rs, re, p⟩ => p am [] H .refl rs .nil
theorem qa_cons (ha : QE cl W X a f) (hr : QA cl W X es (eArgs fs)) (hs : starEach (a :: es) X.env = (false, eval a X.env) :: starEach es X.env := by rfl) : QA cl W X (a :: es) (eArgs (f :: fs)) := (pa_cons ha hr hs).imp fun σ H Q ⟨am, e, S, rs, re, p⟩ =>
  ⟨am, e, S, rs, re, (Post.step p).imp fun x H1 ⟨am1, S1, d, _, g1, rs1, rv, p1⟩ =>
    ⟨am1, e, S1, rs1, re.mono g1, (Post.step p1).imp fun xs H2 ⟨am2, S2, ds, _, g2, rs2, rvs, p2⟩ => p2 am2 _ H2 .refl rs2 (.cons (rv.mono g2) rvs)⟩⟩
theorem qe_tup {x1} (h : QA cl W X es (eArgs fs)) (hn : fs.length ≤ 1000 := by decide) : QE cl W X (.Tuple es x1 pos) (eTup fs) := (pe_tupF h).imp fun σ H Q ⟨am, e, S, rs, re, p⟩ =>
  ⟨am, e, S, rs, re, (Post.step p).imp fun xs H1 ⟨am1, S1, ds, ee, g1, rs1, rvs, p1⟩ =>
    ⟨by rw [← rvs.length, eArgs_len ee]; exact Nat.le_trans hn (by decide), fun q ob hq hd => p1 am1 _ _ (Grow.upd hq) (rs1.upd hq) (VR.tupNew rs1 rvs hq hd)⟩⟩
theorem imp_call {r : List V → Hp → VK → Prop} {op : List D → Sto → Res D} (ok : OkN X.K cl r op) : ∀ σ H Q, TD X.K cl W (VR X.K) (eCall op fs) σ H Q → tCB r (TD X.K cl W (VRs X.K) (eArgs fs)) σ H Q := fun σ H Q ⟨am, e, S, rs, re, p⟩ =>
  ⟨am, e, S, rs, re, (Post.step p).imp fun xs H1 ⟨am1, S1, ds, ee, g1, rs1, rvs, p1⟩ => ok W σ am1 S1 H1 ds xs Q rs1 rvs p1⟩
variable {x : Str} {p : Pos}
theorem qe_callB {id : String} {r : List V → Hp → VK → Prop} {op : List D → Sto → Res D} (hc : CallR X (.builtin id) r) (ok : OkN X.K cl r op) (hg : Gl X x) (hm : X.mg x = none) (hv : bootBuiltins x = some (.builtin id)) (ha : QA cl W X (a :: es) (eArgs fs)) (hn : x ≠ "__name__" := by decide) (hdb : (x == ("__debug__" : Str)) = false := by decide)
    (he : starEach (a :: es) X.env = (false, eval a X.env) :: starEach es X.env := by rfl) (hpl : (backTo pos (starEach es X.env)).any (·.1) = false := by rfl) : QE cl W X (.Call (.Name x p) (a :: es) [] pos) (eCall op fs) :=
  (pe_callB hc hg hm hv ha hn hdb he hpl).imp (imp_call ok)
theorem qe_callT {T : String} {r : List V → Hp → VK → Prop} {op : List D → Sto → Res D} (hc : CallR X (.type T) r) (ok : OkN X.K cl r op) (hg : Gl X x) (hm : X.mg x = none) (hv : bootBuiltins x = some (.type T)) (ha : QA cl W X (a :: es) (eArgs fs)) (hn : x ≠ "__name__" := by decide) (hdb : (x == ("__debug__" : Str)) = false := by decide)
    (he : starEach (a :: es) X.env = (false, eval a X.env) :: starEach es X.env := by rfl) (hpl : (backTo pos (starEach es X.env)).any (·.1) = false := by rfl) : QE cl W X (.Call (.Name x p) (a :: es) [] pos) (eCall op fs) :=
  (pe_callTy hc hg hm hv ha hn hdb he hpl).imp (imp_call ok)
end
/-- the sequence that a value is -/
noncomputable def sqOf (S : Sto) : D → Option (List D)
  | .tup xs => some xs
  | d => lsOf S d
@[simp] theorem sqOf_tup {S : Sto} {xs : List D} : sqOf S (.tup xs) = some xs := id rfl
@[simp] theorem sqOf_lst {S : Sto} {xs : List D} : sqOf S (.lst xs) = some xs := id rfl
@[simp] theorem sqOf_fls {S : Sto} {xs : List D} : sqOf S (.fls xs) = some xs := id rfl
@[simp] theorem sqOf_ref {S : Sto} {k : Nat} {xs : List D} (h : S[k]? = some (.lst xs)) : sqOf S (.ref k) = some xs := lsOf_ref h
theorem sqOf_ok {K : PySem.W.Frag} {cl : Str → Addr} {am : AM} {H : Hp} {S : Sto} {d : D} {v : V} (r : RelS K cl am S H) (h : VR K am H d v) {xs : List D} (e : sqOf S d = some xs) :
    ∃ a vs, v = .ref a ∧ (SqL K H a vs ∨ SqT K H a vs) ∧ VRs K am H xs vs := by
  cases h with
  | tup h hs =>
    cases e
    exact ⟨_, _, rfl, .inr h.seq, hs⟩
  | lst h1 h2 h3 =>
    obtain ⟨a, vs, ev, r1, hs⟩ := lsOf_ok r (.lst h1 h2 h3) e
    exact ⟨a, vs, ev, .inl r1, hs⟩
  | fls h1 h3 =>
    obtain ⟨a, vs, ev, r1, hs⟩ := lsOf_ok r (.fls h1 h3) e
    exact ⟨a, vs, ev, .inl r1, hs⟩
  | ref h1 =>
    obtain ⟨a, vs, ev, r1, hs⟩ := lsOf_ok r (.ref h1) e
    exact ⟨a, vs, ev, .inl r1, hs⟩
  | _ => cases e
end Pu
set_option Elab.async false
set_option linter.all false
set_option maxRecDepth 100000
namespace Pu
open PySem PySem.Spec PyProof.Rows L2
noncomputable def PostN (K : PySem.W.Frag) (cl : Str → Addr) (W : WX) (σ : L2.St) (am : AM) (H : Hp) (r : Res DO) (Q : VK) : Prop := match r with
  | .ok o S => ∀ (am' : AM) (a : Addr) (H' : Hp), Grow am am' H H' → RelS K cl am' S H' → H a = none → a ∈ am'.no → a ∉ am'.ad → OR K cl am' H' a o → Q (.ref a) H'
  | .exc c S => ∀ am' H', Grow am am' H H' → RelS K cl am' S H' → W (.ref (cl c)) none σ H'
  | .bad => False
noncomputable def TDN (K : PySem.W.Frag) (cl : Str → Addr) (W : WX) (f : Ev DO) : TE := fun σ H Q => ∃ am e S, RelS K cl am S H ∧ RelE K am H e σ ∧ PostN K cl W σ am H (f e S) Q
noncomputable abbrev QN (cl : Str → Addr) (W : WX) (X : Cx) (e : Expr) (f : Ev DO) : Prop := PE X e (TDN X.K cl W f)
noncomputable def anoD (o : DO) (S : Sto) : Res D := match o with
  | .lst xs => .ok (.lst xs) S
  | .dct xs => .ok (.dct xs) S
  | _ => .bad
@[simp] theorem anoD_lst {xs : List D} {S : Sto} : anoD (.lst xs) S = .ok (.lst xs) S := id rfl
@[simp] theorem anoD_dct {xs : List (Key × D)} {S : Sto} : anoD (.dct xs) S = .ok (.dct xs) S := id rfl
/-- .. kept by its data -/
noncomputable def eAno (f : Ev DO) : Ev D := fun e S => (f e S).bind anoD
/-- .. kept in the store -/
noncomputable def eNew (f : Ev DO) : Ev D := fun e S => (f e S).bind fun o S => .ok (.ref S.length) (S ++ [o])
section
variable {K : PySem.W.Frag} {cl : Str → Addr} {W : WX} {σ : L2.St} {am am1 : AM} {H H1 : Hp} {S : Sto} {Q : VK} {f : Ev DO}
theorem PostN.step {α β : Type} {R : AM → Hp → α → β → Prop} {r : Res α} {k : α → Sto → Res DO} (p : PostN K cl W σ am H (r.bind k) Q) :
    Post K cl W σ R am H r (fun b H1 => ∃ am1 S1 a, r = .ok a S1 ∧ Grow am am1 H H1 ∧ RelS K cl am1 S1 H1 ∧ R am1 H1 a b ∧ PostN K cl W σ am H (k a S1) Q) := by
  cases r with
  | ok a S => exact fun am1 b H1 g rs rb => ⟨am1, S, a, rfl, g, rs, rb, p⟩
  | exc c S => exact p
  | bad => exact p
theorem Grow.unborn (g : Grow am am1 H H1) (rs : RelS K cl am1 S H1) {p : Addr} (h : H1 p = none) : H p = none := by
  cases q : H p with
  | none => rfl
  | some o =>
    by_cases hp : p ∈ am.ad
    · obtain ⟨r, e⟩ := g.pre
      have : p ∈ am1.ad := by rw [e]; exact List.mem_append_left _ hp
      exact absurd h (by obtain ⟨u, e2⟩ := rs.there p (am1.sub p this); rw [e2]; simp)
    · rw [g.keep p o q hp] at h
      cases h
/-- the object is laid at last -/
theorem PostN.laid {o : DO} {ov : HO} {q : Addr} (p : PostN K cl W σ am H (.ok o S) Q) (g : Grow am am1 H H1) (rs : RelS K cl am1 S H1) (hq : H1 q = none) (ho : OR K cl (am1.resv q) (upd H1 q ov) q o) : Q (.ref q) (upd H1 q ov) :=
  p (am1.resv q) q _ (g.trans (Grow.resv hq)) (rs.resv hq) (g.unborn rs hq) List.mem_cons_self (fun z => (rs.new hq) (am1.sub q z)) ho
theorem imp_ano : ∀ σ H Q, TD K cl W (VR K) (eAno f) σ H Q → TDN K cl W f σ H Q := fun σ H Q ⟨am, e, S, rs, re, p⟩ => by
  refine ⟨am, e, S, rs, re, ?_⟩
  unfold eAno at p
  cases q : f e S with
  | ok o S1 =>
    rw [q] at p
    intro am' a H' g rs' ha hn hd ho
    cases o with
    | lst xs =>
      obtain ⟨vs, h1, h2⟩ := ho
      exact p (am'.free a hd) (.ref a) H' (g.free hd (rs.new ha)) (rs'.free hd) (.lst h1 (AM.free_not hd) (h2.ext (Ext.free hd)))
    | dct xs =>
      obtain ⟨vs, h1, h2⟩ := ho
      exact p (am'.free a hd) (.ref a) H' (g.free hd (rs.new ha)) (rs'.free hd) (.dct h1 (AM.free_not hd) (h2.ext (Ext.free hd)))
    | ins c fs => exact p.elim
    | fdc _ _ _ => exact p.elim
  | exc c S1 => rw [q] at p; exact p
  | bad => rw [q] at p; exact p.elim
theorem imp_new : ∀ σ H Q, TD K cl W (VR K) (eNew f) σ H Q → TDN K cl W f σ H Q := fun σ H Q ⟨am, e, S, rs, re, p⟩ => by
  refine ⟨am, e, S, rs, re, ?_⟩
  unfold eNew at p
  cases q : f e S with
  | ok o S1 =>
    rw [q] at p
    intro am' a H' g rs' ha hn hd ho
    refine p (am'.push a hn) (.ref a) H' (g.push hn ha) (rs'.push hn hd ho) (.ref ?_)
    show (am'.ad ++ [a])[S1.length]? = some a
    rw [← rs'.len, List.getElem?_append_right (Nat.le_refl _), Nat.sub_self]
    rfl
  | exc c S1 => rw [q] at p; exact p
  | bad => rw [q] at p; exact p.elim
end
section
variable {cl : Str → Addr} {W : WX} {X : Cx} {a b c : Expr} {es : List Expr} {f g h : Ev D} {fs : List (Ev D)} {fn : Ev DO} {pos : Pos}
theorem qe_ano (h : QN cl W X a fn) : QE cl W X a (eAno fn) := h.imp imp_ano
theorem qe_new (h : QN cl W X a fn) : QE cl W X a (eNew fn) := h.imp imp_new
noncomputable def nLst (fs : List (Ev D)) : Ev DO := fun e S => (eArgs fs e S).bind fun xs S => .ok (.lst xs) S
theorem qn_lst (h : QA cl W X es (eArgs fs)) (hn : fs.length ≤ 1000 := by decide) : QN cl W X (.List es pos) (nLst fs) := (pe_lst h).imp fun σ H Q ⟨am, e, S, rs, re, p⟩ =>
  ⟨am, e, S, rs, re, (PostN.step p).imp fun xs H1 ⟨am1, S1, ds, ee, g1, rs1, rvs, p1⟩ =>
    ⟨by rw [← rvs.length, eArgs_len ee]; exact Nat.le_trans hn (by decide), fun q hq => p1.laid g1 rs1 hq ⟨xs, upd_same, rvs.mono (Grow.resv hq)⟩⟩⟩
noncomputable def nDct0 : Ev DO := fun _ S => .ok (.dct []) S
theorem qn_dct0 : QN cl W X (.Dict [] [] pos) nDct0 := pe_dnewK.imp fun σ H Q ⟨am, e, S, rs, re, p⟩ => fun q hq => PostN.laid p .refl rs hq ⟨[], upd_same, .nil⟩
end
noncomputable def sSet (i : Nat) (f : Ev D) : Stm := fun e S => (f e S).stm e fun d S => .next (e.set i (some d)) S
noncomputable def sRet (f : Ev D) : Stm := fun e S => (f e S).stm e fun d S => .ret d S
noncomputable def sExpr (f : Ev D) : Stm := fun e S => (f e S).stm e fun _ S => .next e S
noncomputable def sNext : Stm := fun e S => .next e S
noncomputable def sBrk : Stm := fun e S => .brk e S
noncomputable def sSeq (a b : Stm) : Stm := fun e S => (a e S).seq b
noncomputable def sIf (t : Ev Bool) (a b : Stm) : Stm := fun e S => (t e S).stm e fun k S => if k = true then a e S else b e S
/-- slots that nobody reads any more -/
noncomputable def sFgt (vs : List Nat) (a : Stm) : Stm := fun e S => match a e S with
  | .next e S => .next (wipeE e vs) S
  | r => r
section
variable {cl : Str → Addr} {W : WX} {X : Cx} {st : Stmt} {rest sa sb : List Stmt} {a b c : Expr} {f g : Ev D} {t : Ev Bool} {u v : Stm} {pos : Pos}
theorem PostS.imp {K : PySem.W.Frag} {am : AM} {H : Hp} {r : SRes} {E E' : Ends} (p : PostS K cl W am H r E) (h1 : ∀ σ H', E.nx σ H' → E'.nx σ H') (h2 : ∀ v H', E.rt v H' → E'.rt v H') (h3 : ∀ σ H', E.bk σ H' → E'.bk σ H') (h4 : ∀ σ H', E.ct σ H' → E'.ct σ H') : PostS K cl W am H r E' := by
  cases r with
  | next e S => exact fun am' σ H' g rs re => h1 _ _ (p am' σ H' g rs re)
  | brk e S => exact fun am' σ H' g rs re => h3 _ _ (p am' σ H' g rs re)
  | cnt e S => exact fun am' σ H' g rs re => h4 _ _ (p am' σ H' g rs re)
  | ret d S => exact fun am' v H' g rs rv => h2 _ _ (p am' v H' g rs rv)
  | exc c e S => exact p
  | bad => exact p
theorem qs_set {i : Nat} {x : Str} {pos' : Pos} (hN : X.N.Nodup) (hi : X.N[i]? = some x) (hx : Loc X.env.scope x) (he : QE cl W X a f) (hs : swapsWith a (some (.Name x pos')) pos.line X.env = pure false := by rfl) (hf : X.fn x = true ∨ X.env.scope.names.lookup x = some .local := by first | exact .inl rfl | exact .inr rfl | assumption) :
    QS cl W X (.Assign [.Name x pos'] a pos) (sSet i f) := (ps_set hN hi hx he hs hf).imp fun E σ H ⟨am, e, S, rs, re, p⟩ =>
  ⟨am, e, S, rs, re, (PostS.step re p).imp fun x H1 ⟨am1, S1, d, _, g1, rs1, rv, p1⟩ => p1 am1 _ H1 .refl rs1 ((re.mono g1).set i rv)⟩
theorem qs_ret (he : QE cl W X a f) : QS cl W X (.Return (some a) pos) (sRet f) := (ps_ret he).imp fun E σ H ⟨am, e, S, rs, re, p⟩ =>
  ⟨am, e, S, rs, re, (PostS.step re p).imp fun x H1 ⟨am1, S1, d, _, g1, rs1, rv, p1⟩ => p1 am1 _ H1 .refl rs1 rv⟩
theorem qs_expr (he : QE cl W X a f) (hs : swapsWith a none pos.line X.env = pure false := by rfl) : QS cl W X (.Expr a pos) (sExpr f) := (ps_expr he hs).imp fun E σ H ⟨am, e, S, rs, re, p⟩ =>
  ⟨am, e, S, rs, re, (PostS.step re p).imp fun x H1 ⟨am1, S1, d, _, g1, rs1, rv, p1⟩ => p1 am1 _ H1 .refl rs1 (re.mono g1)⟩
theorem qb_nil : QB cl W X [] sNext := pss_nil.imp fun E σ H ⟨am, e, S, rs, re, p⟩ => p am σ H .refl rs re
theorem qb_one (h : QS cl W X st u) : QB cl W X [st] u := pss_one h
theorem qb_cons (h1 : QS cl W X st u) (h2 : QB cl W X rest v) : QB cl W X (st :: rest) (sSeq u v) := (pss_cons h1 h2).imp fun E σ H ⟨am, e, S, rs, re, p⟩ => by
  refine ⟨am, e, S, rs, re, ?_⟩
  have p : PostS X.K cl W am H ((u e S).seq v) E := p
  cases q : u e S with
  | next e1 S1 =>
    rw [q] at p
    exact fun am1 σ1 H1 g1 rs1 re1 => ⟨am1, e1, S1, rs1, re1, PostS.grow g1 p⟩
  | brk e1 S1 => rw [q] at p; exact p
  | cnt e1 S1 => rw [q] at p; exact p
  | ret d S1 => rw [q] at p; exact p
  | exc c e1 S1 => rw [q] at p; exact p
  | bad => rw [q] at p; exact p
theorem qs_if (hc : QT cl W X c t) (ha : QB cl W X sa u) (hb : QB cl W X sb v) : QS cl W X (.If c sa sb pos) (sIf t u v) := (ps_if hc ha hb).imp fun E σ H ⟨am, e, S, rs, re, p⟩ =>
  ⟨am, e, S, rs, re, (PostS.step re p).imp fun k H1 ⟨am1, S1, k', _, g1, rs1, rk, p1⟩ => by
    have rk : k' = k := rk
    subst rk
    cases k' with
    | true => exact ⟨am1, e, S1, rs1, re.mono g1, p1⟩
    | false => exact ⟨am1, e, S1, rs1, re.mono g1, p1⟩⟩
theorem PostS.fgt {K : PySem.W.Frag} {am : AM} {H : Hp} {E : Ends} {vs : List Nat} {e : En} {S : Sto} (p : PostS K cl W am H (sFgt vs u e S) E) : PostS K cl W am H (u e S) E := by
  unfold sFgt at p
  cases q : u e S with
  | next e1 S1 => rw [q] at p; exact fun am' σ H' g rs re => p am' σ H' g rs (re.forget vs)
  | brk e1 S1 => rw [q] at p; exact p
  | cnt e1 S1 => rw [q] at p; exact p
  | ret d S1 => rw [q] at p; exact p
  | exc c e1 S1 => rw [q] at p; exact p
  | bad => rw [q] at p; exact p
theorem qs_fgt (vs : List Nat) (h : QS cl W X st u) : QS cl W X st (sFgt vs u) := h.imp fun E σ H ⟨am, e, S, rs, re, p⟩ => ⟨am, e, S, rs, re, PostS.fgt p⟩
end
inductive Tg where
  | nm (i : Nat) | tp (ts : List Tg)
mutual
noncomputable def bindT : Tg → D → En → Option En
  | .nm i, d, e => some (e.set i (some d))
  | .tp ts, .tup ds, e => bindTs ts ds e
  | .tp ts, .tpi ds, e => bindTs ts ds e
  | .tp _, _, _ => none
noncomputable def bindTs : List Tg → List D → En → Option En
  | [], [], e => some e
  | t :: ts, d :: ds, e => (bindT t d e).bind fun e => bindTs ts ds e
  | _, _, _ => none
end
mutual
noncomputable def Tg.sl : Tg → List Nat
  | .nm i => [i]
  | .tp ts => slTs ts
noncomputable def slTs : List Tg → List Nat
  | [] => []
  | t :: ts => t.sl ++ slTs ts
end
/-- only the slots at vs are others -/
structure But (vs : List Nat) (σ σ' : L2.St) : Prop where
  len : σ'.length = σ.length
  get : ∀ j, j ∉ vs → σ'[j]? = σ[j]?
theorem But.refl {vs : List Nat} {σ : L2.St} : But vs σ σ := ⟨rfl, fun _ _ => rfl⟩
theorem But.trans {vs us : List Nat} {σ σ1 σ2 : L2.St} (a : But vs σ σ1) (b : But us σ1 σ2) : But (vs ++ us) σ σ2 := ⟨b.len.trans a.len, fun j h => (b.get j fun z => h (List.mem_append_right _ z)).trans (a.get j fun z => h (List.mem_append_left _ z))⟩
theorem wipe_get {σ : L2.St} : ∀ {vs : List Nat} {j : Nat}, (L2.wipe σ vs)[j]? = if j ∈ vs then (if j < σ.length then some none else none) else σ[j]?
  | [], j => by simp [L2.wipe]
  | v :: vs, j => by
    show ((L2.wipe σ vs).set v none)[j]? = _
    rw [List.getElem?_set]
    by_cases hj : v = j
    · subst hj
      simp [wipe_length]
    · rw [if_neg hj, wipe_get (vs := vs)]
      have : (j ∈ v :: vs) ↔ j ∈ vs := by simp [Ne.symm hj]
      simp only [this]
theorem But.wipe {us vs : List Nat} {σ σ' : L2.St} (b : But us σ σ') (h : ∀ j, j ∈ us → j ∈ vs) : L2.wipe σ' vs = L2.wipe σ vs := by
  apply List.ext_getElem?
  intro j
  rw [wipe_get, wipe_get, b.len]
  by_cases hj : j ∈ vs
  · rw [if_pos hj, if_pos hj]
  · rw [if_neg hj, if_neg hj]
    exact b.get j fun z => hj (h j z)
noncomputable def TDg (K : PySem.W.Frag) (cl : Str → Addr) (tg : Tg) : TG := fun v σ H Q => ∃ am e S d e', RelS K cl am S H ∧ RelE K am H e σ ∧ VR K am H d v ∧ bindT tg d e = some e' ∧ ∀ σ', RelE K am H e' σ' → But tg.sl σ σ' → Q σ' H
noncomputable def TDgs (K : PySem.W.Frag) (cl : Str → Addr) (tg : List Tg) : TGs := fun vs σ H Q => ∃ am e S ds e', RelS K cl am S H ∧ RelE K am H e σ ∧ VRs K am H ds vs ∧ bindTs tg ds e = some e' ∧ ∀ σ', RelE K am H e' σ' → But (slTs tg) σ σ' → Q σ' H
noncomputable abbrev QG (cl : Str → Addr) (X : Cx) (target : Expr) (tg : Tg) : Prop := PG X target (TDg X.K cl tg)
noncomputable abbrev QGs (cl : Str → Addr) (X : Cx) (ts : List Expr) (tg : List Tg) : Prop := PGs X ts (TDgs X.K cl tg)
theorem _root_.L2.PG.imp {X : Cx} {e : Expr} {t t' : TG} (h : PG X e t) (i : ∀ v σ H Q, t' v σ H Q → t v σ H Q) : PG X e t' := ⟨fun pins s σ H v u Q I r q => h.run pins s σ H v u Q I r (i v σ H Q q)⟩
theorem _root_.L2.PGs.imp {X : Cx} {e : List Expr} {t t' : TGs} (h : PGs X e t) (i : ∀ v σ H Q, t' v σ H Q → t v σ H Q) : PGs X e t' := ⟨fun pins s σ H v u Q I r q => h.run pins s σ H v u Q I r (i v σ H Q q)⟩
section
variable {cl : Str → Addr} {X : Cx} {pos : Pos}
theorem But.set {i : Nat} {σ : L2.St} {v : Option V} : But [i] σ (σ.set i v) := ⟨List.length_set, fun j h => by rw [List.getElem?_set_ne]; simpa [eq_comm] using h⟩
theorem qg_nm {i : Nat} {x : Str} (hN : X.N.Nodup) (hi : X.N[i]? = some x) (hx : Loc X.env.scope x) (hf : X.fn x = true ∨ X.env.scope.names.lookup x = some .local := by first | exact .inl rfl | exact .inr rfl | assumption) : QG cl X (.Name x pos) (.nm i) :=
  (pg_name hN hi hx hf).imp fun v σ H Q ⟨am, e, S, d, e', rs, re, rv, eb, q⟩ => by
    cases eb
    exact q _ (re.set i rv) But.set
theorem qgs_nil : QGs cl X [] [] := pgs_nil.imp fun v σ H Q ⟨am, e, S, d, e', rs, re, rv, eb, q⟩ => by
  cases rv with
  | nil =>
    cases eb
    exact ⟨rfl, q σ re .refl⟩
  | cons _ _ => cases eb
theorem qgs_cons {e : Expr} {es : List Expr} {t : Tg} {ts : List Tg} (h1 : QG cl X e t) (h2 : QGs cl X es ts) (hs : (assignEach (e :: es) X.env).map (·.2) = assign e X.env :: (assignEach es X.env).map (·.2) := by rfl) : QGs cl X (e :: es) (t :: ts) :=
  (pgs_cons h1 h2 hs).imp fun v σ H Q ⟨am, e, S, ds, e', rs, re, rv, eb, q⟩ => by
    cases rv with
    | nil => cases eb
    | @cons d v1 ds1 vs1 r1 r2 =>
      have eb : ((bindT t d e).bind fun e => bindTs ts ds1 e) = some e' := eb
      cases q1 : bindT t d e with
      | none => rw [q1] at eb; cases eb
      | some e1 =>
        rw [q1] at eb
        exact ⟨_, _, rfl, am, e, S, d, e1, rs, re, r1, q1, fun σ1 re1 b1 => ⟨am, e1, S, ds1, e', rs, re1, r2, eb, fun σ2 re2 b2 => q σ2 re2 (b1.trans b2)⟩⟩
theorem qg_tp {es : List Expr} {k : Nat} {ts : List Tg} {n : Nat} (hc : X.calm = true) (h : QGs cl X es ts) (hl : ts.length = n) (hn : (assignEach es X.env).length = n := by rfl) (hst : (assignEach es X.env).findIdx? (·.1) = none := by rfl) : QG cl X (.Tuple es k pos) (.tp ts) :=
  (pg_tup hc h hn hst).imp fun v σ H Q ⟨am, e, S, d, e', rs, re, rv, eb, q⟩ => by
    have len : ∀ (ts : List Tg) (ds : List D) (e e' : En), bindTs ts ds e = some e' → ds.length = ts.length := by
      intro ts
      induction ts with
      | nil => intro ds e e' h; cases ds with | nil => rfl | cons _ _ => cases h
      | cons t ts ih =>
        intro ds e e' h
        cases ds with
        | nil => cases h
        | cons d ds =>
          have h : ((bindT t d e).bind fun e => bindTs ts ds e) = some e' := h
          cases q1 : bindT t d e with
          | none => rw [q1] at h; cases h
          | some e1 => rw [q1] at h; rw [List.length_cons, List.length_cons, ih ds e1 e' h]
    cases rv with
    | @tup a vs ds ht hs => exact ⟨a, vs, rfl, ht.seq, by rw [← hs.length, len ts ds e e' eb, hl], am, e, S, ds, e', rs, re, hs, eb, q⟩
    | @tpi a vs ds ht hs => exact ⟨a, vs, rfl, .inl ht.1, by rw [← hs.length, len ts ds e e' eb, hl], am, e, S, ds, e', rs, re, hs, eb, q⟩
    | _ => cases eb
end
/-- target = value, any target of names -/
noncomputable def sAsg (tg : Tg) (f : Ev D) : Stm := fun e S => (f e S).stm e fun d S => match bindT tg d e with
  | some e' => .next e' S
  | none => .bad
section
variable {cl : Str → Addr} {W : WX} {X : Cx} {a tgE : Expr} {f : Ev D} {tg : Tg} {pos : Pos}
theorem qs_asg (he : QE cl W X a f) (hg : QG cl X tgE tg) (hs : swapsWithSole [tgE] a pos.line X.env = pure false := by rfl) (hw : swappedStores [tgE] a X.env = pure none := by rfl)
    (h1 : (assignEach [tgE] X.env).map (·.2) = [assign tgE X.env] := by rfl) : QS cl W X (.Assign [tgE] a pos) (sAsg tg f) := (ps_asg he hg hs hw h1).imp fun E σ H ⟨am, e, S, rs, re, p⟩ =>
  ⟨am, e, S, rs, re, (PostS.step re p).imp fun x H1 ⟨am1, S1, d, _, g1, rs1, rv, p1⟩ => by
    cases q : bindT tg d e with
    | none => simp only [q] at p1; exact p1.elim
    | some e' =>
      simp only [q] at p1
      exact ⟨am1, e, S1, d, e', rs1, re.mono g1, rv, q, fun σ' re' _ => p1 am1 σ' H1 .refl rs1 re'⟩⟩
end
/-- a key as a value -/
noncomputable def kyD : Key → D
  | .inl i => .int i
  | .inr x => .str x
inductive Src where
  | tmp (xs : List D) | st (k : Nat) (xs : List D) | fk (k : Nat) (od : Obj) (vs : List (Key × V)) (kvs : List (Key × D))
noncomputable def Src.items : Src → List D
  | .tmp xs => xs
  | .st _ xs => xs
  | .fk _ _ _ kvs => kvs.map fun p => kyD p.1
noncomputable def Src.ok : Src → Sto → Prop
  | .tmp _, _ => True
  | .st k xs, S => S[k]? = some (.lst xs)
  | .fk k od vs kvs, S => S[k]? = some (.fdc od vs kvs)
noncomputable instance (src : Src) (S : Sto) : Decidable (src.ok S) := Classical.propDecidable _
@[simp] theorem Src.items_tmp {xs : List D} : (Src.tmp xs).items = xs := id rfl
@[simp] theorem Src.items_st {k : Nat} {xs : List D} : (Src.st k xs).items = xs := id rfl
@[simp] theorem Src.ok_tmp {xs : List D} {S : Sto} : (Src.tmp xs).ok S = True := id rfl
@[simp] theorem Src.ok_st {xs : List D} {k : Nat} {S : Sto} : (Src.st k xs).ok S = (S[k]? = some (.lst xs)) := id rfl
/-- an iterator gives the items -/
noncomputable def SrcJ (K : PySem.W.Frag) (cl : Str → Addr) (src : Src) (am : AM) (H : Hp) (J : It) : Prop :=
  ∀ (am' : AM) (H' : Hp) (S' : Sto), Grow am am' H H' → RelS K cl am' S' H' → src.ok S' →
    (∀ (i : Nat) (d : D), src.items[i]? = some d → J.go i H' ∧ ∀ (x : V) (H2 : Hp), J.yld i H' x H2 → ∃ am2, Grow am' am2 H' H2 ∧ RelS K cl am2 S' H2 ∧ VR K am2 H2 d x) ∧
    (∀ i : Nat, src.items.length ≤ i → J.stop i H')
noncomputable def TDi (K : PySem.W.Frag) (cl : Str → Addr) (W : WX) (f : Ev Src) : TI := fun σ H R => ∃ am e S, RelS K cl am S H ∧ RelE K am H e σ ∧ Post K cl W σ (SrcJ K cl |> fun P => fun am H (s : Src) (J : It) => P s am H J) am H (f e S) R
noncomputable abbrev QI (cl : Str → Addr) (W : WX) (X : Cx) (tg iter : Expr) (f : Ev Src) : Prop := PI X tg iter (TDi X.K cl W f)
theorem _root_.L2.PI.imp {X : Cx} {tg e : Expr} {t t' : TI} (h : PI X tg e t) (i : ∀ σ H R, t' σ H R → t σ H R) : PI X tg e t' := ⟨fun pins s σ H R I q => h.run pins s σ H R I (i σ H R q)⟩
/-- a value as a source: a list or a tuple -/
noncomputable def srcL (d : D) (S : Sto) : Res Src := match d with
  | .lst xs => .ok (.tmp xs) S
  | .fls xs => .ok (.tmp xs) S
  | .ref k => match S[k]? with
    | some (.lst xs) => .ok (.st k xs) S
    | _ => .bad
  | _ => .bad
noncomputable def srcT (d : D) (S : Sto) : Res Src := match d with
  | .tup xs => .ok (.tmp xs) S
  | _ => .bad
noncomputable def iL (f : Ev D) : Ev Src := fun e S => (f e S).bind srcL
noncomputable def iT (f : Ev D) : Ev Src := fun e S => (f e S).bind srcT
section
variable {cl : Str → Addr} {W : WX} {X : Cx} {a b tgE : Expr} {f g : Ev D} {pos : Pos} {K : PySem.W.Frag}
theorem itl_ok {src : Src} {am : AM} {H : Hp} {a : Addr} (h : ∀ (am' : AM) (H' : Hp) (S' : Sto), Grow am am' H H' → RelS K cl am' S' H' → src.ok S' → ∃ vs, SqL K H' a vs ∧ VRs K am' H' src.items vs) : SrcJ K cl src am H (Itl K a) := by
  intro am' H' S' g rs hs
  obtain ⟨vs, h1, h2⟩ := h am' H' S' g rs hs
  refine ⟨fun i d hd => ?_, fun i hi => ⟨vs, h1, by rw [← h2.length]; exact hi⟩⟩
  obtain ⟨v, hv, rv⟩ := h2.get hd
  refine ⟨⟨vs, v, h1, hv⟩, fun x H2 hy => ?_⟩
  obtain ⟨rfl, hy⟩ := hy
  have e : v = x := Option.some.inj (hv.symm.trans (hy vs h1))
  subst e
  exact ⟨am', .refl, rs, rv⟩
theorem qi_l (ha : QE cl W X a f) : QI cl W X tgE a (iL f) := (pi_list ha).imp fun σ H R ⟨am, e, S, rs, re, p⟩ =>
  ⟨am, e, S, rs, re, (Post.step p).imp fun x H1 ⟨am1, S1, d, _, g1, rs1, rv, p1⟩ => by
    cases rv with
    | @lst a vs ds h1 h2 h3 =>
      refine ⟨a, rfl, ⟨vs, .inl (.inl h1)⟩, p1 am1 _ H1 .refl rs1 (itl_ok fun am' H' S' g rs hs => ⟨vs, .inl (.inl (g.ext.keep _ _ h1 h2).1), h3.mono g⟩)⟩
    | @fls a vs ds h1 h3 =>
      refine ⟨a, rfl, ⟨vs, h1.seq⟩, p1 am1 _ H1 .refl rs1 (itl_ok fun am' H' S' g rs hs => ⟨vs, (h1.ext g.ext).seq, h3.mono g⟩)⟩
    | @ref k a h1 =>
      simp only [srcL] at p1
      cases q : S1[k]? with
      | none => rw [q] at p1; exact p1.elim
      | some o =>
        rw [q] at p1
        cases o with
        | lst xs =>
          obtain ⟨vs, h2, h3⟩ := rs1.ob k _ a q h1
          refine ⟨a, rfl, ⟨vs, .inl (.inl h2)⟩, p1 am1 _ H1 .refl rs1 (itl_ok fun am' H' S' g rs hs => ?_)⟩
          obtain ⟨vs', h2', h3'⟩ := rs.ob k _ a hs (g.get h1)
          exact ⟨vs', .inl (.inl h2'), h3'⟩
        | dct _ => exact p1.elim
        | ins _ _ => exact p1.elim
        | fdc _ _ _ => exact p1.elim
    | _ => exact p1.elim⟩
theorem qi_t (ha : QE cl W X a f) : QI cl W X tgE a (iT f) := (pi_tup ha).imp fun σ H R ⟨am, e, S, rs, re, p⟩ =>
  ⟨am, e, S, rs, re, (Post.step p).imp fun x H1 ⟨am1, S1, d, _, g1, rs1, rv, p1⟩ => by
    cases rv with
    | @tup a vs ds h1 h2 =>
      refine ⟨a, rfl, ⟨vs, h1.seq⟩, p1 am1 _ H1 .refl rs1 fun am' H' S' g rs hs => ?_⟩
      have h1' := (h1.ext g.ext).seq
      have h2' := h2.mono g
      refine ⟨fun i d hd => ?_, fun i hi => ⟨vs, h1', by rw [← h2'.length]; exact hi⟩⟩
      obtain ⟨v, hv, rv⟩ := h2'.get hd
      refine ⟨⟨vs, v, h1', hv⟩, fun x H2 hy => ?_⟩
      obtain ⟨rfl, hy⟩ := hy
      have e : v = x := Option.some.inj (hv.symm.trans (hy vs h1'))
      subst e
      exact ⟨am', .refl, rs, rv⟩
    | _ => exact p1.elim⟩
/-- range -/
noncomputable def rngD (lo hi : Int) : List D := (List.range (hi - lo).toNat).map fun i : Nat => D.int (lo + (i : Nat))
noncomputable def Rg62 (i : Int) : Prop := -(2 ^ 62) ≤ i ∧ i < 2 ^ 62
noncomputable instance (i : Int) : Decidable (Rg62 i) := by unfold Rg62; infer_instance
noncomputable def srcR1 (ds : List D) (S : Sto) : Res Src := match ds with
  | [.int j] => if Rg62 j then .ok (.tmp (rngD 0 j)) S else .bad
  | _ => .bad
noncomputable def srcR2 (ds : List D) (S : Sto) : Res Src := match ds with
  | [.int i, .int j] => if Rg62 i ∧ Rg62 j then .ok (.tmp (rngD i j)) S else .bad
  | _ => .bad
noncomputable def iR1 (f : Ev D) : Ev Src := fun e S => (eArgs [f] e S).bind srcR1
noncomputable def iR2 (f g : Ev D) : Ev Src := fun e S => (eArgs [f, g] e S).bind srcR2
theorem itr_ok {lo : Int} {n : Nat} {xs : List D} {am : AM} {H : Hp} (hx : xs = (List.range n).map fun i : Nat => D.int (lo + (i : Nat))) : SrcJ K cl (.tmp xs) am H (Itr lo n) := by
  intro am' H' S' g rs hs
  subst hx
  refine ⟨fun i d hd => ?_, fun i hi => by simpa [Itr] using hi⟩
  have hi : i < n := by
    have := (List.getElem?_eq_some_iff.mp hd).1
    simpa using this
  have e : d = .int (lo + (i : Nat)) := by
    have hd : ((List.range n).map fun i : Nat => D.int (lo + (i : Nat)))[i]? = some d := hd
    rw [List.getElem?_map, List.getElem?_range hi] at hd
    exact (Option.some.inj hd).symm
  subst e
  refine ⟨hi, fun x H2 hy => ?_⟩
  obtain ⟨rfl, rfl⟩ := hy
  exact ⟨am', .refl, rs, .int _⟩
variable {p' : Pos}
theorem qi_r1 (hg : Gl X "range") (hm : X.mg "range" = none) (ha : QE cl W X a f) (h0 : starEach [a] X.env = (false, eval a X.env) :: starEach [] X.env := by rfl) (hs : starEach [a] X.env = [(false, eval a X.env)] := by rfl) : QI cl W X tgE (.Call (.Name "range" p') [a] [] pos) (iR1 f) :=
  (pi_range1 hg hm (qa_cons ha qa_nil h0) hs).imp fun σ H R ⟨am, e, S, rs, re, p⟩ =>
    ⟨am, e, S, rs, re, (Post.step p).imp fun xs H1 ⟨am1, S1, ds, _, g1, rs1, rv, p1⟩ => by
      cases rv with
      | nil => exact p1.elim
      | cons r1 r2 =>
        cases r2 with
        | nil =>
          cases r1 with
          | int j =>
            simp only [srcR1] at p1
            by_cases hj : Rg62 j
            · rw [if_pos hj] at p1
              exact ⟨j, rfl, hj.1, hj.2, p1 am1 _ H1 .refl rs1 (itr_ok (by unfold rngD; simp))⟩
            · rw [if_neg hj] at p1
              exact p1.elim
          | _ => exact p1.elim
        | cons _ _ => cases r1 <;> exact p1.elim⟩
end
/-- dead: slots that a turn leaves for none -/
noncomputable def forD (dead : List Nat) (tg : Tg) (src : Src) (body : Stm) : List D → En → Sto → SRes
  | [], e, S => if src.ok S then .next e S else .bad
  | x :: xs, e, S => if src.ok S then match bindT tg x e with
    | none => .bad
    | some e1 => match body e1 S with
      | .next e2 S2 => forD dead tg src body xs (wipeE e2 dead) S2
      | .cnt e2 S2 => forD dead tg src body xs (wipeE e2 dead) S2
      | .brk e2 S2 => .next e2 S2
      | r => r
    else .bad
noncomputable def sFor (dead : List Nat) (tg : Tg) (it : Ev Src) (body : Stm) : Stm := fun e S => (it e S).stm e fun src S => forD dead tg src body src.items e S
section
variable {cl : Str → Addr} {W : WX} {X : Cx} {tgE iter : Expr} {body : List Stmt} {pos : Pos} {it : Ev Src} {tg : Tg} {u : Stm}
theorem qs_for (dead : List Nat) (hp : PassesOwn (model X.prog X.w) X.A X.env X.xe) (hc : X.calm = true) (hi : QI cl W X tgE iter it) (hg : QG cl X tgE tg) (hb : QB cl W X body u) (hs : ∀ x, foldedSetIterable iter X.env x = pure x := by intro _; rfl) :
    QS cl W X (.For tgE iter body [] pos) (sFor dead tg it u) := (ps_for hp hc hi hg hb hs).imp fun E σ H ⟨am, e, S, rs, re, p⟩ => by
  refine ⟨am, e, S, rs, re, (PostS.step re p).imp fun J H1 ⟨am1, S1, src, _, g1, rs1, hJ, p1⟩ => ?_⟩
  refine ⟨fun i m σ H => m = src.items.length - i ∧ i ≤ src.items.length ∧ ∃ am2 e2 S2, Grow am1 am2 H1 H ∧ RelS X.K cl am2 S2 H ∧ RelE X.K am2 H e2 σ ∧ PostS X.K cl W am2 H (forD dead tg src u (src.items.drop i) e2 S2) E,
    ⟨_, rfl, Nat.zero_le _, am1, e, S1, .refl, rs1, re.mono g1, by rw [List.drop_zero]; exact p1⟩, ?_⟩
  rintro i m σ2 H2 ⟨rfl, hi, am2, e2, S2, g2, rs2, re2, p2⟩
  by_cases hok : src.ok S2
  · obtain ⟨hgo, hstop⟩ := hJ am2 H2 S2 g2 rs2 hok
    by_cases hlt : i < src.items.length
    · rw [List.drop_eq_getElem_cons hlt] at p2
      unfold forD at p2
      rw [if_pos hok] at p2
      have hd : src.items[i]? = some src.items[i] := List.getElem?_eq_getElem hlt
      obtain ⟨go, yld⟩ := hgo i _ hd
      refine .inr ⟨go, fun σ' H' => ∃ am3 e3 S3, Grow am1 am3 H1 H' ∧ RelS X.K cl am3 S3 H' ∧ RelE X.K am3 H' e3 σ' ∧ PostS X.K cl W am3 H' (forD dead tg src u (src.items.drop (i + 1)) e3 S3) E,
        fun σ' H' hN => ⟨src.items.length - (i + 1), by omega, rfl, hlt, hN⟩, fun x H3 hy => ?_⟩
      obtain ⟨am3, g3, rs3, rv⟩ := yld x H3 hy
      cases q : bindT tg src.items[i] e2 with
      | none => simp only [q] at p2; exact p2.elim
      | some e3 =>
        simp only [q] at p2
        refine ⟨am3, e2, S2, _, e3, rs3, re2.mono g3, rv, q, fun σ3 re3 _ => ⟨am3, e3, S2, rs3, re3, ?_⟩⟩
        cases q2 : u e3 S2 with
        | next e4 S4 =>
          simp only [q2] at p2
          exact fun am4 σ4 H4 g4 rs4 re4 => ⟨am4, _, S4, (g2.trans g3).trans g4, rs4, re4.forget dead, PostS.grow (g3.trans g4) p2⟩
        | cnt e4 S4 =>
          simp only [q2] at p2
          exact fun am4 σ4 H4 g4 rs4 re4 => ⟨am4, _, S4, (g2.trans g3).trans g4, rs4, re4.forget dead, PostS.grow (g3.trans g4) p2⟩
        | brk e4 S4 =>
          simp only [q2] at p2
          exact fun am4 σ4 H4 g4 rs4 re4 => p2 am4 σ4 H4 (g3.trans g4) rs4 re4
        | ret d S4 =>
          simp only [q2] at p2
          exact fun am4 v H4 g4 rs4 rv4 => p2 am4 v H4 (g3.trans g4) rs4 rv4
        | exc c e4 S4 =>
          simp only [q2] at p2
          exact fun am4 σ4 H4 g4 rs4 re4 => p2 am4 σ4 H4 (g3.trans g4) rs4 re4
        | bad =>
          simp only [q2] at p2
          exact p2
    · have ei : i = src.items.length := by omega
      subst ei
      rw [List.drop_length] at p2
      unfold forD at p2
      rw [if_pos hok] at p2
      exact .inl ⟨hstop _ (Nat.le_refl _), p2 am2 σ2 H2 .refl rs2 re2⟩
  · exfalso
    cases hl : src.items.drop i with
    | nil => rw [hl] at p2; unfold forD at p2; rw [if_neg hok] at p2; exact p2
    | cons x xs => rw [hl] at p2; unfold forD at p2; rw [if_neg hok] at p2; exact p2
end
noncomputable def whileN (dead : List Nat) (t : Ev Bool) (body : Stm) : Nat → En → Sto → SRes
  | 0, _, _ => .bad
  | n + 1, e, S => match t e S with
    | .ok true S => match body e S with
      | .next e2 S2 => whileN dead t body n (wipeE e2 dead) S2
      | .cnt e2 S2 => whileN dead t body n (wipeE e2 dead) S2
      | .brk e2 S2 => .next e2 S2
      | r => r
    | .ok false S => .next e S
    | .exc c S => .exc c e S
    | .bad => .bad
theorem whileN_mono {dead : List Nat} {t : Ev Bool} {body : Stm} : ∀ {n : Nat} {e : En} {S : Sto}, whileN dead t body n e S ≠ .bad → whileN dead t body (n + 1) e S = whileN dead t body n e S
  | 0, _, _, h => absurd rfl h
  | n + 1, e, S, h => by
    unfold whileN at h
    show whileN dead t body (n + 1 + 1) e S = _
    conv => lhs; unfold whileN
    conv => rhs; unfold whileN
    cases q : t e S with
    | ok b S1 =>
      cases b with
      | true =>
        simp only [q] at h ⊢
        cases q2 : body e S1 with
        | next e2 S2 => simp only [q2] at h ⊢; exact whileN_mono h
        | cnt e2 S2 => simp only [q2] at h ⊢; exact whileN_mono h
        | _ => rfl
      | false => rfl
    | exc c S1 => rfl
    | bad => rfl
theorem whileN_le {dead : List Nat} {t : Ev Bool} {body : Stm} {n m : Nat} {e : En} {S : Sto} (h : whileN dead t body n e S ≠ .bad) (hm : n ≤ m) : whileN dead t body m e S = whileN dead t body n e S := by
  induction m with
  | zero => have : n = 0 := by omega
            subst this; rfl
  | succ m ih =>
    by_cases hn : n = m + 1
    · subst hn; rfl
    · have q := ih (by omega)
      rw [← q] at h ⊢
      exact whileN_mono h
open Classical in
noncomputable def whileD (dead : List Nat) (t : Ev Bool) (body : Stm) : Stm := fun e S => if h : ∃ n, whileN dead t body n e S ≠ .bad then whileN dead t body (choose h) e S else .bad
theorem whileD_eq {dead : List Nat} {t : Ev Bool} {body : Stm} {n : Nat} {e : En} {S : Sto} {r : SRes} (h : whileN dead t body n e S = r) (hr : r ≠ .bad) : whileD dead t body e S = r := by
  have hx : ∃ n, whileN dead t body n e S ≠ .bad := ⟨n, by rw [h]; exact hr⟩
  unfold whileD
  rw [dif_pos hx]
  have q := Classical.choose_spec hx
  rcases Nat.le_total n (Classical.choose hx) with hl | hl
  · rw [whileN_le (by rw [h]; exact hr) hl, h]
  · rw [← whileN_le q hl, h]
section
variable {cl : Str → Addr} {W : WX} {X : Cx} {c : Expr} {body : List Stmt} {pos : Pos} {t : Ev Bool} {u : Stm}
theorem qs_while (dead : List Nat) (hp : PassesOwn (model X.prog X.w) X.A X.env X.xe) (hc : QT cl W X c t) (hb : QB cl W X body u) : QS cl W X (.While c body [] pos) (whileD dead t u) := (ps_while hp hc hb).imp fun E σ H ⟨am, e, S, rs, re, p⟩ => by
  unfold whileD at p
  by_cases hx : ∃ n, whileN dead t u n e S ≠ .bad
  · rw [dif_pos hx] at p
    refine ⟨fun n σ H => ∃ am e S, RelS X.K cl am S H ∧ RelE X.K am H e σ ∧ PostS X.K cl W am H (whileN dead t u n e S) E, ⟨_, am, e, S, rs, re, p⟩, ?_⟩
    rintro n σ1 H1 ⟨am1, e1, S1, rs1, re1, p1⟩
    cases n with
    | zero => exact p1.elim
    | succ n =>
      refine ⟨am1, e1, S1, rs1, re1, ?_⟩
      unfold whileN at p1
      cases q : t e1 S1 with
      | exc c S2 =>
        simp only [q] at p1
        exact fun am2 H2 g2 rs2 => p1 am2 σ1 H2 g2 rs2 (re1.mono g2)
      | bad => simp only [q] at p1; exact p1
      | ok b S2 =>
        intro am2 k H2 g2 rs2 rk
        have rk : b = k := rk
        subst rk
        cases b with
        | false =>
          simp only [q] at p1
          show E.nx σ1 H2
          exact p1 am2 σ1 H2 g2 rs2 (re1.mono g2)
        | true =>
          simp only [q] at p1
          refine ⟨fun σ' H' => ∃ am e S, RelS X.K cl am S H' ∧ RelE X.K am H' e σ' ∧ PostS X.K cl W am H' (whileN dead t u n e S) E, fun σ' H' h => ⟨n, Nat.lt_succ_self n, h⟩, am2, e1, S2, rs2, re1.mono g2, ?_⟩
          cases q2 : u e1 S2 with
          | next e4 S4 =>
            simp only [q2] at p1
            exact fun am4 σ4 H4 g4 rs4 re4 => ⟨am4, _, S4, rs4, re4.forget dead, PostS.grow (g2.trans g4) p1⟩
          | cnt e4 S4 =>
            simp only [q2] at p1
            exact fun am4 σ4 H4 g4 rs4 re4 => ⟨am4, _, S4, rs4, re4.forget dead, PostS.grow (g2.trans g4) p1⟩
          | brk e4 S4 =>
            simp only [q2] at p1
            exact fun am4 σ4 H4 g4 rs4 re4 => p1 am4 σ4 H4 (g2.trans g4) rs4 re4
          | ret d S4 =>
            simp only [q2] at p1
            exact fun am4 v H4 g4 rs4 rv4 => p1 am4 v H4 (g2.trans g4) rs4 rv4
          | exc c e4 S4 =>
            simp only [q2] at p1
            exact fun am4 σ4 H4 g4 rs4 re4 => p1 am4 σ4 H4 (g2.trans g4) rs4 re4
          | bad =>
            simp only [q2] at p1
            exact p1
  · rw [dif_neg hx] at p
    exact p.elim
end
end Pu
set_option Elab.async false
set_option linter.all false
set_option maxRecDepth 100000
namespace Pu
open PySem PySem.Spec PyProof.Rows L2
/-- nothing may be raised here -/
noncomputable def nox {α : Type} (r : Res α) : Res α := match r with
  | .ok a S => .ok a S
  | _ => .bad
@[simp] theorem nox_ok {α : Type} {a : α} {S : Sto} : nox (.ok a S) = .ok a S := id rfl
noncomputable def lcD (tg : Tg) (src : Src) (t : Ev Bool) (f : Ev D) (e : En) : List D → Sto → Res (List D)
  | [], S => if src.ok S then .ok [] S else .bad
  | x :: xs, S => if src.ok S then match bindT tg x e with
    | none => .bad
    | some e1 => (nox (t e1 S)).bind fun b S => if b = true then (nox (f e1 S)).bind fun d S => (lcD tg src t f e xs S).bind fun ds S => .ok (d :: ds) S else lcD tg src t f e xs S
    else .bad
theorem lcD_nil {tg : Tg} {src : Src} {t : Ev Bool} {f : Ev D} {e : En} {S : Sto} : lcD tg src t f e [] S = if src.ok S then .ok [] S else .bad := by
  unfold lcD
  rfl
theorem lcD_cons {tg : Tg} {src : Src} {t : Ev Bool} {f : Ev D} {e : En} {S : Sto} {x : D} {xs : List D} : lcD tg src t f e (x :: xs) S = if src.ok S then match bindT tg x e with
    | none => .bad
    | some e1 => (nox (t e1 S)).bind fun b S => if b = true then (nox (f e1 S)).bind fun d S => (lcD tg src t f e xs S).bind fun ds S => .ok (d :: ds) S else lcD tg src t f e xs S
    else .bad := by
  conv => lhs; unfold lcD
noncomputable def nLc (vs : List Nat) (tg : Tg) (it : Ev Src) (t : Ev Bool) (f : Ev D) : Ev DO := fun e S => (it e S).bind fun src S => if src.items.length ≤ sizeLine then (lcD tg src t f (wipeE e vs) src.items S).bind fun ds S => .ok (.lst ds) S else .bad
noncomputable def tYesD : Ev Bool := fun _ S => .ok true S
noncomputable abbrev W0 : WX := fun _ _ _ _ => False
section
variable {K : PySem.W.Frag} {cl : Str → Addr} {W : WX} {am am' : AM} {H H' : Hp} {S : Sto}
/-- a reserved object is written by its owner -/
theorem Ext.own {D : Addr} {o : HO} (hn : D ∈ am.no) : Ext am am H (L2.upd H D o) := ⟨fun _ _ h => h, fun b u hb nb => ⟨by rw [upd_ne (show b ≠ D from fun e => nb (by rw [e]; exact hn))]; exact hb, nb⟩⟩
theorem RelS.own {D : Addr} {o : HO} (r : RelS K cl am S H) (hn : D ∈ am.no) (hd : D ∉ am.ad) : RelS K cl am S (L2.upd H D o) :=
  ⟨r.len, r.nd, fun k u b h1 h2 => (r.ob k u b h1 h2).ext (Ext.own hn) fun w hw => by rw [upd_ne (show b ≠ D from fun e => hd (by rw [← e]; exact List.mem_of_getElem? h2))]; exact hw, fun b hb => by
    by_cases e : b = D
    · exact ⟨o, by rw [e]; exact upd_same⟩
    · obtain ⟨u, q⟩ := r.there b hb
      exact ⟨u, by rw [upd_ne e]; exact q⟩⟩
theorem Grow.own {D : Addr} {o : HO} (g : Grow am am' H H') (h : H D = none) : Grow am am' H (L2.upd H' D o) := ⟨g.pre, g.fresh, g.freshNo, g.noK, fun b u hb nb => by
  rw [upd_ne (ne_of_none hb h)]
  exact g.keep b u hb nb⟩
theorem Grow.inNo {D : Addr} (g : Grow am am' H H') (hD : ∃ o, H D = some o) (hd : D ∉ am.ad) : D ∉ am'.ad := fun z => by
  obtain ⟨o, e⟩ := hD
  have q := g.fresh D z hd
  rw [e] at q; cases q
end
section
variable {cl : Str → Addr} {W : WX} {X : Cx} {elt tgE iter : Expr} {ifs : List Expr} {scope : Scope} {own : List (Str × Nat)} {pos spos : Pos} {it : Ev Src} {tg : Tg} {t : Ev Bool} {f : Ev D}
/-- a clause's tests -/
noncomputable abbrev QTs (cl : Str → Addr) (W : WX) (X : Cx) (ifs : List Expr) (f : Ev Bool) : Prop := PTs X ifs (TD X.K cl W RB f)
theorem qts_nil {X : Cx} : QTs cl W X [] tYesD := ⟨fun pins s σ H Q I ⟨am, e, S, rs, re, p⟩ => pts_nil.run pins s σ H Q I (p am true H .refl rs rfl)⟩
theorem qts_one {X : Cx} {c : Expr} {f : Ev Bool} (h : QT cl W X c f) : QTs cl W X [c] f := pts_one h
/-- the reading of a comprehension, whatever becomes of the list -/
theorem imp_lc {K : PySem.W.Frag} (hsl : ∀ j, j ∈ tg.sl → j ∈ own.map (·.2)) (σ : L2.St) (H : Hp) (Q : VK) :
    TDN K cl W (nLc (own.map (·.2)) tg it t f) σ H Q → tLc (TDi K cl W it) (TDg K cl tg) (TD K cl W0 RB t) (TD K cl W0 (VR K) f) (own.map (·.2)) σ H Q := fun ⟨am, e, S, rs, re, p⟩ => by
  refine ⟨am, e, S, rs, re, (PostN.step p).imp fun J H1 ⟨am1, S1, src, _, g1, rs1, hJ, p1⟩ => ?_⟩
  intro D hD
  by_cases hz : src.items.length ≤ sizeLine
  · rw [if_pos hz] at p1
    have hD0 : H D = none := g1.unborn rs1 hD
    -- the invariant
    refine ⟨fun i m H2 => m = src.items.length - i ∧ i ≤ src.items.length ∧ ∃ am2 S2 acc vacc, Grow am1 am2 H1 H2 ∧ RelS K cl am2 S2 H2 ∧ D ∈ am2.no ∧ D ∉ am2.ad ∧ H2 D = some (.lst vacc) ∧ VRs K am2 H2 acc vacc ∧ acc.length ≤ i ∧
        RelE K am2 H2 (wipeE e (own.map (·.2))) (L2.wipe σ (own.map (·.2))) ∧
        ((lcD tg src t f (wipeE e (own.map (·.2))) src.items S1).bind fun ds S => Res.ok (DO.lst ds) S) = ((lcD tg src t f (wipeE e (own.map (·.2))) (src.items.drop i) S2).bind fun ds S => .ok (.lst (acc ++ ds)) S),
      ⟨_, rfl, Nat.zero_le _, am1.resv D, S1, [], [], Grow.resv hD, rs1.resv hD, List.mem_cons_self, fun z => rs1.new hD (am1.sub D z), upd_same, .nil, Nat.le_refl _, ((re.wipe _).mono g1).mono (Grow.resv hD), by rw [List.drop_zero] <;> rfl⟩, ?_⟩
    rintro i m H2 ⟨rfl, hi, am2, S2, acc, vacc, g2, rs2, dn, dd, hacc, racc, lacc, re2, eqn⟩
    rw [eqn] at p1
    by_cases hok : src.ok S2
    · obtain ⟨hgo, hstop⟩ := hJ am2 H2 S2 g2 rs2 hok
      by_cases hlt : i < src.items.length
      · have hd : src.items[i]? = some src.items[i] := List.getElem?_eq_getElem hlt
        obtain ⟨go, yld⟩ := hgo i _ hd
        rw [List.drop_eq_getElem_cons hlt] at p1 eqn
        rw [lcD_cons, if_pos hok] at p1 eqn
        cases q : bindT tg src.items[i] (wipeE e (own.map (·.2))) with
        | none => simp only [q] at p1; exact p1.elim
        | some e3 =>
          simp only [q] at p1 eqn
          refine .inr ⟨go, fun H' => ∃ am2 S2 acc vacc, Grow am1 am2 H1 H' ∧ RelS K cl am2 S2 H' ∧ D ∈ am2.no ∧ D ∉ am2.ad ∧ H' D = some (.lst vacc) ∧ VRs K am2 H' acc vacc ∧ acc.length ≤ i + 1 ∧
              RelE K am2 H' (wipeE e (own.map (·.2))) (L2.wipe σ (own.map (·.2))) ∧
              ((lcD tg src t f (wipeE e (own.map (·.2))) src.items S1).bind fun ds S => Res.ok (DO.lst ds) S) = ((lcD tg src t f (wipeE e (own.map (·.2))) (src.items.drop (i + 1)) S2).bind fun ds S => .ok (.lst (acc ++ ds)) S),
            fun H' hN => ⟨src.items.length - (i + 1), by omega, rfl, hlt, hN⟩, fun x H3 hy => ?_⟩
          obtain ⟨am3, g3, rs3, rv⟩ := yld x H3 hy
          refine ⟨am3, _, S2, _, e3, rs3, re2.mono g3, rv, q, fun σ3 re3 b3 => ⟨?_, ?_⟩⟩
          · rw [b3.wipe hsl]
            -- wiping twice
            apply List.ext_getElem?
            intro j
            simp only [wipe_get, wipe_length]
            by_cases hj : j ∈ own.map (·.2)
            · simp only [if_pos hj]
            · simp only [if_neg hj]
          · -- the test
            cases q2 : t e3 S2 with
            | exc c S => simp only [q2, nox, Res.bind_bad] at p1; exact p1.elim
            | bad => simp only [q2, nox, Res.bind_bad] at p1; exact p1.elim
            | ok b S4 =>
              simp only [q2, nox, Res.bind_ok] at p1 eqn
              have hDs : ∃ o, H2 D = some o := ⟨_, hacc⟩
              refine ⟨am3, e3, S2, rs3, re3, ?_⟩
              rw [q2]
              intro am4 k H4 g4 rs4 rk
              have rk : b = k := rk
              subst rk
              have g24 := g3.trans g4
              have dd4 : D ∉ am4.ad := g24.inNo hDs dd
              have keepD : ∀ {am' : AM} {H' : Hp}, Grow am2 am' H2 H' → H' D = some (.lst vacc) := fun {am' H'} g => g.keep D _ hacc dd
              cases b with
              | false =>
                rw [if_neg Bool.false_ne_true]
                rw [if_neg Bool.false_ne_true] at eqn
                exact ⟨am4, S4, acc, vacc, g2.trans g24, rs4, g24.noK D dn, dd4, keepD g24, racc.mono g24, by omega, re2.mono g24, eqn⟩
              | true =>
                rw [if_pos rfl]
                rw [if_pos rfl] at p1 eqn
                refine ⟨am4, e3, S4, rs4, re3.mono g4, ?_⟩
                cases q3 : f e3 S4 with
                | exc c S => simp only [q3, nox, Res.bind_bad] at p1; exact p1.elim
                | bad => simp only [q3, nox, Res.bind_bad] at p1; exact p1.elim
                | ok d S5 =>
                  simp only [q3, nox, Res.bind_ok] at p1 eqn
                  intro am5 y H5 g5 rs5 ry
                  have g25 := g24.trans g5
                  have dn5 := g25.noK D dn
                  have dd5 : D ∉ am5.ad := g25.inNo hDs dd
                  have hv : (vacc ++ [y]).length = (acc ++ [d]).length := by rw [List.length_append, List.length_append, racc.length] <;> rfl
                  refine ⟨vacc, keepD g25, by rw [← racc.length]; omega, am5, S5, acc ++ [d], vacc ++ [y], (g2.trans g25).own hD, rs5.own dn5 dd5, dn5, dd5, upd_same,
                    ((racc.mono g25).append (.cons ry .nil)).ext (Ext.own dn5), by rw [List.length_append]; exact Nat.succ_le_succ lacc, (re2.mono g25).ext (Ext.own dn5), ?_⟩
                  rw [eqn]
                  cases lcD tg src t f (wipeE e (own.map (·.2))) (src.items.drop (i + 1)) S5 with
                  | ok ds S6 => simp
                  | exc c S6 => rfl
                  | bad => rfl
      · have ei : i = src.items.length := by omega
        subst ei
        rw [List.drop_length] at p1
        rw [lcD_nil, if_pos hok] at p1
        simp only [Res.bind_ok, List.append_nil] at p1
        exact .inl ⟨hstop _ (Nat.le_refl _), p1 am2 D H2 (g1.trans g2) rs2 hD0 dn dd ⟨vacc, hacc, racc⟩⟩
    · exfalso
      cases hl : src.items.drop i with
      | nil => rw [hl, lcD_nil, if_neg hok] at p1; exact p1
      | cons x xs => rw [hl, lcD_cons, if_neg hok] at p1; exact p1
  · rw [if_neg hz] at p1
    exact p1.elim
variable {py : Pos}
theorem qn_lc (hc : X.calm = true) (hN : X.N.Nodup) (hi : QI cl W X tgE iter it) (ok : BlkOk X.N X.env.scope scope own) (hsl : tg.sl.all fun j => decide (j ∈ own.map (·.2)))
    (hg : ∀ (s : Shared) (H : Hp) (C : Addr) (cs : List (Str × Addr)) (fp : List Addr), QG cl (X.blk s H scope (compEnvC scope cs C X.env) fp) tgE tg) (ht : ∀ (s : Shared) (H : Hp) (C : Addr) (cs : List (Str × Addr)) (fp : List Addr), QTs cl W0 (X.blk s H scope (compEnvC scope cs C X.env) fp) ifs t)
    (he : ∀ (s : Shared) (H : Hp) (C : Addr) (cs : List (Str × Addr)) (fp : List Addr), QE cl W0 (X.blk s H scope (compEnvC scope cs C X.env) fp) elt f) (hs : ∀ x, foldedSetIterable iter X.env x = pure x := by intro _; rfl) :
    QN cl W X (.ListComp elt [⟨tgE, iter, ifs, 0⟩] scope pos) (nLc (own.map (·.2)) tg it t f) :=
  (pe_lc hc hN hi ok hg ht he hs).imp (imp_lc fun j hj => of_decide_eq_true (List.all_eq_true.mp hsl j hj))
theorem imp_set {K : PySem.W.Frag} {i : Nat} {f : Ev D} {E : Ends} {σ : L2.St} {H : Hp} (h : TDs K cl W (sSet i f) E σ H) : TD K cl W (VR K) f σ H (fun x H1 => E.nx (σ.set i (some x)) H1) :=
  let ⟨am, e, S, rs, re, p⟩ := h
  ⟨am, e, S, rs, re, (PostS.step re p).imp fun x H1 ⟨am1, S1, d, _, g1, rs1, rv, p1⟩ => p1 am1 _ H1 .refl rs1 ((re.mono g1).set i rv)⟩
/-- y = [..], on one line, y a local -/
theorem qs_setLc {i : Nat} {y : Str} {g : Ev D} (hc : X.calm = true) (hN : X.N.Nodup) (hy : X.N[i]? = some y) (hyl : X.env.scope.names.lookup y = some .local)
    (hsw : swapsWith (.ListComp elt [⟨tgE, iter, ifs, 0⟩] scope pos) (some (.Name y py)) spos.line X.env = pure true) (hi : QI cl W X tgE iter it) (ok : BlkOk X.N X.env.scope scope own) (hsl : tg.sl.all fun j => decide (j ∈ own.map (·.2)))
    (hg : ∀ (s : Shared) (H : Hp) (C : Addr) (cs : List (Str × Addr)) (fp : List Addr), QG cl (X.blk s H scope (compEnvC scope cs C X.env) fp) tgE tg) (ht : ∀ (s : Shared) (H : Hp) (C : Addr) (cs : List (Str × Addr)) (fp : List Addr), QTs cl W0 (X.blk s H scope (compEnvC scope cs C X.env) fp) ifs t)
    (he : ∀ (s : Shared) (H : Hp) (C : Addr) (cs : List (Str × Addr)) (fp : List Addr), QE cl W0 (X.blk s H scope (compEnvC scope cs C X.env) fp) elt f)
    (kind : ∀ σ H Q, TD X.K cl W (VR X.K) g σ H Q → TDN X.K cl W (nLc (own.map (·.2)) tg it t f) σ H Q) (hs : ∀ x, foldedSetIterable iter X.env x = pure x := by intro _; rfl) :
    QS cl W X (.Assign [.Name y py] (.ListComp elt [⟨tgE, iter, ifs, 0⟩] scope pos) spos) (sSet i g) :=
  (ps_setLc hc hN hy hyl hsw hi ok hg ht he hs).imp fun E σ H h => imp_lc (fun j hj => of_decide_eq_true (List.all_eq_true.mp hsl j hj)) σ H _ (kind _ _ _ (imp_set h))
end
mutual
/-- no number of the store -/
noncomputable def D.gnd : D → Bool
  | .tup xs => gnds xs
  | .tpi xs => gnds xs
  | .lst xs => gnds xs
  | .fls xs => gnds xs
  | .dct xs => gndk xs
  | .ref _ => false
  | _ => true
noncomputable def gnds : List D → Bool
  | [] => true
  | x :: xs => x.gnd && gnds xs
noncomputable def gndk : List (Key × D) → Bool
  | [] => true
  | (_, x) :: xs => x.gnd && gndk xs
end
mutual
/-- all numbers below n -/
noncomputable def D.bel (n : Nat) : D → Bool
  | .tup xs => belows n xs
  | .tpi xs => belows n xs
  | .lst xs => belows n xs
  | .fls xs => belows n xs
  | .dct xs => belowk n xs
  | .ref k => decide (k < n)
  | _ => true
noncomputable def belows (n : Nat) : List D → Bool
  | [] => true
  | x :: xs => x.bel n && belows n xs
noncomputable def belowk (n : Nat) : List (Key × D) → Bool
  | [] => true
  | (_, x) :: xs => x.bel n && belowk n xs
end
noncomputable def DO.bel (n : Nat) : DO → Bool
  | .lst xs => belows n xs
  | .dct xs => belowk n xs
  | .ins _ fs => fs.all fun p => p.2.bel n
  | .fdc _ _ xs => belowk n xs
mutual
theorem gnd_below (n : Nat) : ∀ d : D, d.gnd = true → d.bel n = true
  | .tup xs, h => gnds_below n xs h
  | .tpi xs, h => gnds_below n xs h
  | .lst xs, h => gnds_below n xs h
  | .fls xs, h => gnds_below n xs h
  | .dct xs, h => gndk_below n xs h
  | .ref _, h => absurd h (by simp [D.gnd])
  | .non, _ => rfl
  | .bl _, _ => rfl
  | .int _, _ => rfl
  | .str _, _ => rfl
theorem gnds_below (n : Nat) : ∀ xs : List D, gnds xs = true → belows n xs = true
  | [], _ => rfl
  | x :: xs, h => by
    have h' : x.gnd = true ∧ gnds xs = true := by simpa [gnds] using h
    show (x.bel n && belows n xs) = true
    rw [gnd_below n x h'.1, gnds_below n xs h'.2]
    rfl
theorem gndk_below (n : Nat) : ∀ xs : List (Key × D), gndk xs = true → belowk n xs = true
  | [], _ => rfl
  | (k, x) :: xs, h => by
    have h' : x.gnd = true ∧ gndk xs = true := by simpa [gndk] using h
    show (x.bel n && belowk n xs) = true
    rw [gnd_below n x h'.1, gndk_below n xs h'.2]
    rfl
end
noncomputable def allSome {α : Type} : List (Option α) → Option (List α)
  | [] => some []
  | some x :: xs => (allSome xs).map (x :: ·)
  | none :: _ => none
/-- what came up within a def is handed back by its data -/
noncomputable def frzV (n : Nat) (S : Sto) : Nat → D → Option D
  | 0, d => if d.bel n = true then some d else none
  | f + 1, d => if d.bel n = true then some d else match d with
    | .ref k => match S[k]? with
      | some (.lst xs) => (allSome (xs.map (frzV n S f))).map .lst
      | some (.dct xs) => (allSome (xs.map fun p => (frzV n S f p.2).map fun y => (p.1, y))).map .dct
      | _ => none
    | .tup xs => (allSome (xs.map (frzV n S f))).map .tup
    | .lst xs => (allSome (xs.map (frzV n S f))).map .lst
    | .dct xs => (allSome (xs.map fun p => (frzV n S f p.2).map fun y => (p.1, y))).map .dct
    | _ => none
/-- what stood keeps within what stood -/
noncomputable def Clo (S S' : Sto) : Prop := S.length ≤ S'.length ∧ ∀ (k : Nat) (o : DO), k < S.length → S'[k]? = some o → S[k]? = some o ∨ o.bel S.length = true
noncomputable instance (S S' : Sto) : Decidable (Clo S S') := Classical.propDecidable _
/-- frz: by its data; keep: all stays; new: one new object comes along -/
inductive Md where
  | frz | keep | new
noncomputable def fin (m : Md) (S : Sto) (d : D) (S' : Sto) : Res D := match m with
  | .keep => .ok d S'
  | .frz => if Clo S S' then (opt (frzV S.length S' 6 d) (S'.take S.length)) else .bad
  | .new => match d with
    | .ref k => if Clo S S' ∧ S.length ≤ k then match S'[k]? with
        | some o => if o.bel S.length = true then .ok (.ref S.length) (S'.take S.length ++ [o]) else .bad
        | none => .bad
      else .bad
    | _ => .bad
noncomputable def retD (m : Md) (S : Sto) (r : SRes) : Res D := match r with
  | .ret d S' => fin m S d S'
  | .next _ S' => fin m S .non S'
  | .exc c _ S' => match m with
    | .keep => .exc c S'
    | _ => if Clo S S' then .exc c (S'.take S.length) else .bad
  | _ => .bad
noncomputable def startE (n : Nat) (ds : List D) : En := ds.map some ++ List.replicate (n - ds.length) none
/-- a def by its body: n names -/
noncomputable def runD (m : Md) (n : Nat) (body : Stm) (ds : List D) (S : Sto) : Res D := retD m S (body (startE n ds) S)
section
variable {K : PySem.W.Frag} {cl : Str → Addr} {W : WX} {am am' : AM} {H H' : Hp} {S S' : Sto} {σ : L2.St}
mutual
theorem VR.bel : ∀ {d : D} {v : V}, VR K am H d v → d.bel am.ad.length = true
  | _, _, .non => rfl
  | _, _, .bl _ => rfl
  | _, _, .int _ => rfl
  | _, _, .str _ => rfl
  | _, _, .tup _ hs => VRs.bel hs
  | _, _, .tpi _ hs => VRs.bel hs
  | _, _, .lst _ _ hs => VRs.bel hs
  | _, _, .fls _ hs => VRs.bel hs
  | _, _, .dct _ _ hs => VRk.bel hs
  | _, _, .ref h => decide_eq_true (List.getElem?_eq_some_iff.mp h).1
theorem VRs.bel : ∀ {ds : List D} {vs : List V}, VRs K am H ds vs → belows am.ad.length ds = true
  | _, _, .nil => rfl
  | _, _, .cons h t => by
    show (D.bel _ _ && belows _ _) = true
    rw [VR.bel h, VRs.bel t]
    rfl
theorem VRk.bel : ∀ {ds : List (Key × D)} {vs : List (Key × V)}, VRk K am H ds vs → belowk am.ad.length ds = true
  | _, _, .nil => rfl
  | _, _, .cons h t => by
    show (D.bel _ _ && belowk _ _) = true
    rw [VR.bel h, VRk.bel t]
    rfl
end
theorem VRf_bel : ∀ {fs : List (Str × D)} {vs : List (Str × V)}, VRf K am H fs vs → (fs.all fun p => p.2.bel am.ad.length) = true
  | _, _, .nil => rfl
  | _, _, .cons h t => by
    rw [List.all_cons, VRf_bel t, h.2.bel]
    rfl
theorem OR.bel {a : Addr} {o : DO} (h : OR K cl am H a o) : o.bel am.ad.length = true := by
  cases o with
  | lst xs => obtain ⟨vs, _, h⟩ := h; exact h.bel
  | dct xs => obtain ⟨vs, _, h⟩ := h; exact h.bel
  | ins c fs =>
    obtain ⟨dx, vs, _, h⟩ := h
    exact VRf_bel h
  | fdc _ _ xs => exact h.2.bel
/-- the store cut back -/
noncomputable def AM.cut (am : AM) (n : Nat) (x : List Addr) (nd : am.ad.Nodup) : AM := ⟨am.ad.take n, am.no.filter fun b => decide (b ∉ am.ad.drop n ∨ b ∈ x), fun a ha => List.mem_filter.mpr ⟨am.sub a (List.mem_of_mem_take ha), decide_eq_true (.inl fun z => by
  have q : (am.ad.take n ++ am.ad.drop n).Nodup := by rw [List.take_append_drop]; exact nd
  exact (List.nodup_append.mp q).2.2 a ha a z rfl)⟩⟩
theorem cut_not {nd : am.ad.Nodup} {n : Nat} {x : List Addr} {a : Addr} (h : a ∉ am.no) : a ∉ (am.cut n x nd).no := fun z => h (List.mem_filter.mp z).1
mutual
theorem VR.cut {n : Nat} {x : List Addr} (nd : am.ad.Nodup) : ∀ {d : D} {v : V}, VR K am H d v → d.bel n = true → VR K (am.cut n x nd) H d v
  | _, _, .non, _ => .non
  | _, _, .bl b, _ => .bl b
  | _, _, .int i, _ => .int i
  | _, _, .str x, _ => .str x
  | _, _, .tup h hs, q => .tup (by
      rcases h with ⟨o, h, d, n⟩ | h
      · exact .inl ⟨o, h, d, cut_not n⟩
      · exact .inr h) (VRs.cut nd hs q)
  | _, _, .tpi h hs, q => .tpi ⟨h.1, cut_not h.2⟩ (VRs.cut nd hs q)
  | _, _, .lst h n hs, q => .lst h (cut_not n) (VRs.cut nd hs q)
  | _, _, .fls h hs, q => .fls (by
      rcases h with ⟨h, n⟩ | h
      · exact .inl ⟨h, cut_not n⟩
      · exact .inr h) (VRs.cut nd hs q)
  | _, _, .dct h n hs, q => .dct h (cut_not n) (VRk.cut nd hs q)
  | _, _, .ref h, q => .ref (by
      show (am.ad.take n)[_]? = some _
      rw [List.getElem?_take_of_lt (of_decide_eq_true q)]
      exact h)
theorem VRs.cut {n : Nat} {x : List Addr} (nd : am.ad.Nodup) : ∀ {ds : List D} {vs : List V}, VRs K am H ds vs → belows n ds = true → VRs K (am.cut n x nd) H ds vs
  | _, _, .nil, _ => .nil
  | _, _, .cons h t, q => .cons (VR.cut nd h (Bool.and_eq_true_iff.mp q).1) (VRs.cut nd t (Bool.and_eq_true_iff.mp q).2)
theorem VRk.cut {n : Nat} {x : List Addr} (nd : am.ad.Nodup) : ∀ {ds : List (Key × D)} {vs : List (Key × V)}, VRk K am H ds vs → belowk n ds = true → VRk K (am.cut n x nd) H ds vs
  | _, _, .nil, _ => .nil
  | _, _, .cons h t, q => .cons (VR.cut nd h (Bool.and_eq_true_iff.mp q).1) (VRk.cut nd t (Bool.and_eq_true_iff.mp q).2)
end
theorem VRf_cut {n : Nat} {x : List Addr} (nd : am.ad.Nodup) : ∀ {fs : List (Str × D)} {vs : List (Str × V)}, VRf K am H fs vs → (fs.all fun p => p.2.bel n) = true → VRf K (am.cut n x nd) H fs vs
  | _, _, .nil, _ => .nil
  | _, _, .cons h t, q => by
    rw [List.all_cons, Bool.and_eq_true] at q
    exact .cons ⟨h.1, h.2.cut nd q.1⟩ (VRf_cut nd t q.2)
theorem OR.cut {n : Nat} {x : List Addr} (nd : am.ad.Nodup) {a : Addr} {o : DO} (h : OR K cl am H a o) (q : o.bel n = true) : OR K cl (am.cut n x nd) H a o := by
  cases o with
  | lst xs => obtain ⟨vs, h1, h⟩ := h; exact ⟨vs, h1, h.cut nd q⟩
  | dct xs => obtain ⟨vs, h1, h⟩ := h; exact ⟨vs, h1, h.cut nd q⟩
  | ins c fs =>
    obtain ⟨dx, vs, h1, h⟩ := h
    exact ⟨dx, vs, h1, VRf_cut nd h q⟩
  | fdc _ _ xs => exact ⟨h.1, h.2.cut nd q⟩
theorem Grow.cut {x : List Addr} (g : Grow am am' H H') (rs : RelS K cl am S H) (nd : am'.ad.Nodup) : Grow am (am'.cut S.length x nd) H H' := by
  obtain ⟨r, e⟩ := g.pre
  have et : am'.ad.take S.length = am.ad := by rw [e, ← rs.len, List.take_left]
  refine ⟨⟨[], by show am'.ad.take S.length = _; rw [et, List.append_nil]⟩, fun b hb nb => ?_, fun b hb nb => g.freshNo b (List.mem_filter.mp hb).1 nb, fun b hb => List.mem_filter.mpr ⟨g.noK b hb, decide_eq_true (.inl fun z => ?_)⟩, g.keep⟩
  · have hb : b ∈ am'.ad.take S.length := hb
    rw [et] at hb
    exact absurd hb nb
  · have q : (am'.ad.take S.length ++ am'.ad.drop S.length).Nodup := by rw [List.take_append_drop]; exact nd
    have nb : b ∉ am.ad := fun w => (List.nodup_append.mp q).2.2 b (by rw [et]; exact w) b z rfl
    obtain ⟨o, eo⟩ := rs.there b hb
    have := g.fresh b (List.mem_of_mem_drop z) nb
    rw [eo] at this; cases this
theorem RelS.cut {x : List Addr} (g : Grow am am' H H') (rs : RelS K cl am S H) (rs' : RelS K cl am' S' H') (hc : Clo S S') : RelS K cl (am'.cut S.length x rs'.nd) (S'.take S.length) H' := by
  refine ⟨?_, rs'.nd.sublist (List.take_sublist _ _), fun k o a h1 h2 => ?_, fun a ha => rs'.there a (List.mem_filter.mp ha).1⟩
  · show (am'.ad.take S.length).length = _
    rw [List.length_take, List.length_take, rs'.len]
  · have hk : k < S.length := by
      have := (List.getElem?_eq_some_iff.mp h1).1
      rw [List.length_take] at this
      omega
    rw [List.getElem?_take_of_lt hk] at h1
    have h2 : (am'.ad.take S.length)[k]? = some a := h2
    rw [List.getElem?_take_of_lt hk] at h2
    refine (rs'.ob k o a h1 h2).cut rs'.nd ?_
    rcases hc.2 k o hk h1 with q | q
    · obtain ⟨b, hb, ho⟩ := rs.has q
      have := ho.bel
      rw [rs.len] at this
      exact this
    · exact q
theorem allSome_VRs {am1 : AM} {f : D → Option D} (hf : ∀ d v d', VR K am H d v → f d = some d' → VR K am1 H d' v) : ∀ {xs : List D} {vs : List V} {ys : List D}, VRs K am H xs vs → allSome (xs.map f) = some ys → VRs K am1 H ys vs
  | _, _, _, .nil, h => by cases h; exact .nil
  | _, _, ys, .cons (d := d) (ds := ds) h t, q => by
    rw [List.map_cons] at q
    cases e : f d with
    | none => rw [e] at q; cases q
    | some d' =>
      rw [e] at q
      simp only [allSome] at q
      cases e2 : allSome (ds.map f) with
      | none => rw [e2] at q; cases q
      | some ys' =>
        rw [e2] at q
        cases q
        exact .cons (hf _ _ _ h e) (allSome_VRs hf t e2)
theorem allSome_VRk {am1 : AM} {f : D → Option D} (hf : ∀ d v d', VR K am H d v → f d = some d' → VR K am1 H d' v) : ∀ {xs : List (Key × D)} {vs : List (Key × V)} {ys : List (Key × D)}, VRk K am H xs vs → allSome (xs.map fun p => (f p.2).map fun y => (p.1, y)) = some ys → VRk K am1 H ys vs
  | _, _, _, .nil, h => by cases h; exact .nil
  | _, _, ys, .cons (k := k) (d := d) (ds := ds) h t, q => by
    rw [List.map_cons] at q
    cases e : f d with
    | none => simp only [e] at q; cases q
    | some d' =>
      simp only [e, Option.map_some, allSome] at q
      cases e2 : allSome (ds.map fun p => (f p.2).map fun y => (p.1, y)) with
      | none => rw [e2] at q; cases q
      | some ys' =>
        rw [e2] at q
        cases q
        exact .cons (hf _ _ _ h e) (allSome_VRk hf t e2)
theorem VR.frz {n : Nat} (rs : RelS K cl am S H) : ∀ (f : Nat) (d : D) (v : V) (d' : D), VR K am H d v → frzV n S f d = some d' → VR K (am.cut n [] rs.nd) H d' v
  | 0, d, v, d', h, q => by
    unfold frzV at q
    by_cases hb : d.bel n = true
    · rw [if_pos hb] at q
      cases q
      exact h.cut rs.nd hb
    · rw [if_neg hb] at q
      cases q
  | f + 1, d, v, d', h, q => by
    unfold frzV at q
    by_cases hb : d.bel n = true
    · rw [if_pos hb] at q
      cases q
      exact h.cut rs.nd hb
    · rw [if_neg hb] at q
      have ih := VR.frz (n := n) rs f
      cases h with
      | @ref k a h1 =>
        simp only at q
        have hk : ¬ k < n := fun z => hb (decide_eq_true z)
        have na : a ∉ (am.cut n [] rs.nd).no := fun z => by
          rcases of_decide_eq_true (List.mem_filter.mp z).2 with z | z
          · refine z ?_
            obtain ⟨hl, e⟩ := List.getElem?_eq_some_iff.mp h1
            rw [List.mem_drop_iff_getElem]
            exact ⟨k - n, by omega, by simp only [show n + (k - n) = k by omega]; exact e⟩
          · cases z
        cases e : S[k]? with
        | none => rw [e] at q; cases q
        | some o =>
          rw [e] at q
          cases o with
          | lst xs =>
            obtain ⟨vs, h2, h3⟩ := rs.ob k _ a e h1
            simp only at q
            cases e2 : allSome (xs.map (frzV n S f)) with
            | none => rw [e2] at q; cases q
            | some ys =>
              rw [e2] at q
              cases q
              exact .lst h2 na (allSome_VRs ih h3 e2)
          | dct xs =>
            obtain ⟨vs, h2, h3⟩ := rs.ob k _ a e h1
            simp only at q
            cases e2 : allSome (xs.map fun p => (frzV n S f p.2).map fun y => (p.1, y)) with
            | none => rw [e2] at q; cases q
            | some ys =>
              rw [e2] at q
              cases q
              exact .dct h2 na (allSome_VRk ih h3 e2)
          | ins c fs => cases q
          | fdc _ _ _ => cases q
      | @tup a vs xs h1 h3 =>
        simp only at q
        cases e2 : allSome (xs.map (frzV n S f)) with
        | none => rw [e2] at q; cases q
        | some ys =>
          rw [e2] at q
          cases q
          exact .tup (by
            rcases h1 with ⟨o, h1, d1, n1⟩ | h1
            · exact .inl ⟨o, h1, d1, cut_not n1⟩
            · exact .inr h1) (allSome_VRs ih h3 e2)
      | @lst a vs xs h1 n1 h3 =>
        simp only at q
        cases e2 : allSome (xs.map (frzV n S f)) with
        | none => rw [e2] at q; cases q
        | some ys =>
          rw [e2] at q
          cases q
          exact .lst h1 (cut_not n1) (allSome_VRs ih h3 e2)
      | @dct a vs xs h1 n1 h3 =>
        simp only at q
        cases e2 : allSome (xs.map fun p => (frzV n S f p.2).map fun y => (p.1, y)) with
        | none => rw [e2] at q; cases q
        | some ys =>
          rw [e2] at q
          cases q
          exact .dct h1 (cut_not n1) (allSome_VRk ih h3 e2)
      | _ => cases q
/-- what is handed back is what is promised -/
theorem fin_ok {m : Md} {d : D} {v : V} {Q : VK} (rs : RelS K cl am S H) (p : Post K cl W σ (VR K) am H (fin m S d S') Q) (g : Grow am am' H H') (rs' : RelS K cl am' S' H') (rv : VR K am' H' d v) : Q v H' := by
  cases m with
  | keep => exact p am' v H' g rs' rv
  | frz =>
    simp only [fin] at p
    by_cases hc : Clo S S'
    · rw [if_pos hc] at p
      cases e : frzV S.length S' 6 d with
      | none => rw [e] at p; exact p.elim
      | some d' =>
        rw [e] at p
        exact p _ v H' (g.cut (x := []) rs rs'.nd) (RelS.cut g rs rs' hc) (VR.frz rs' 6 d v d' rv e)
    · rw [if_neg hc] at p
      exact p.elim
  | new =>
    cases rv with
    | @ref k a h1 =>
      simp only [fin] at p
      by_cases hc : Clo S S' ∧ S.length ≤ k
      · rw [if_pos hc] at p
        cases e : S'[k]? with
        | none => rw [e] at p; exact p.elim
        | some o =>
          rw [e] at p
          simp only at p
          by_cases hb : o.bel S.length = true
          · rw [if_pos hb] at p
            -- the object at a comes along, at its new number
            have hm : a ∈ am'.ad := List.mem_of_getElem? h1
            have na : a ∉ am.ad := fun z => by
              obtain ⟨r, er⟩ := g.pre
              obtain ⟨j, hj, ej⟩ := List.mem_iff_getElem.mp z
              have h2 : am'.ad[j]? = some a := by rw [er, List.getElem?_append_left hj, List.getElem?_eq_getElem hj, ej]
              have := nd_ix rs'.nd h1 h2
              rw [rs.len] at hj
              omega
            have hH : H a = none := g.fresh a hm na
            have gc : Grow am (am'.cut S.length [a] rs'.nd) H H' := g.cut rs rs'.nd
            have rc : RelS K cl (am'.cut S.length [a] rs'.nd) (S'.take S.length) H' := RelS.cut g rs rs' hc.1
            have hno : a ∈ (am'.cut S.length [a] rs'.nd).no := List.mem_filter.mpr ⟨am'.sub a hm, decide_eq_true (.inr (by simp))⟩
            have had : a ∉ (am'.cut S.length [a] rs'.nd).ad := fun z => na (by
              obtain ⟨r, er⟩ := g.pre
              have z : a ∈ am'.ad.take S.length := z
              rw [er, ← rs.len, List.take_left] at z
              exact z)
            have ho := (rs'.ob k o a e h1).cut (x := [a]) rs'.nd hb
            refine p _ (.ref a) H' (gc.push hno hH) (rc.push hno had ho) (.ref ?_)
            show ((am'.cut S.length [a] rs'.nd).ad ++ [a])[S.length]? = some a
            have hl : (am'.cut S.length [a] rs'.nd).ad.length = S.length := by
              rw [rc.len, List.length_take]
              have := hc.1.1
              omega
            rw [List.getElem?_append_right (by rw [hl]; exact Nat.le_refl _), hl, Nat.sub_self]
            rfl
          · rw [if_neg hb] at p
            exact p.elim
      · rw [if_neg hc] at p
        exact p.elim
    | _ => exact p.elim
end
end Pu
set_option Elab.async false
set_option linter.all false
set_option maxRecDepth 100000
namespace Pu
open PySem PySem.Spec PyProof.Rows L2
noncomputable def SpD (K : PySem.W.Frag) (cl : Str → Addr) (n : Nat) (F : List D → Sto → Res D) : Sp := fun vs H Q E =>
  ∃ am ds S, ds.length = n ∧ RelS K cl am S H ∧ VRs K am H ds vs ∧ Post K cl (fun c d _ H => E c d H) [] (VR K) am H (F ds S) Q
/-- a def of the text stands where its name says -/
structure DefIn (K : PySem.W.Frag) (mg : Str → Option Value) (x : Str) (st : Stmt) (ps : List Str) : Prop where
  ex : ∃ f fd, Fun K x x st f fd ∧ mg x = some (.ref f) ∧ ∀ us : List Value, us.length = ps.length → bindArgs fd ⟨us, []⟩ = pure (ps.zip us)
structure DefOk (P : Program) (w : World) (K : PySem.W.Frag) (mg : Str → Option Value) (base : Heap) (cl : Str → Addr) (x : Str) (k : Nat) (ps : List Str) (F : List D → Sto → Res D) : Prop where
  ex : ∃ f fd, FnOk P w K mg base (L2N.CX P w) k f fd ps (SpD K cl ps.length F) ∧ mg x = some (.ref f) ∧ PySem.W.keepIn K (.ref f) = true ∧ (∀ us : List Value, us.length = ps.length → bindArgs fd ⟨us, []⟩ = pure (ps.zip us)) ∧
    ∃ (oc : Value) (od : Option Addr) (osl : Array (Option Value)), K.lookup f = some ⟨oc, od, .func fd, osl⟩
section
variable {P : Program} {w : World} {K : PySem.W.Frag} {mg : Str → Option Value} {base : Heap} {cl : Str → Addr}
theorem DefOk.mono {x : Str} {k j : Nat} {ps : List Str} {F : List D → Sto → Res D} (d : DefOk P w K mg base cl x k ps F) (h : k ≤ j) : DefOk P w K mg base cl x j ps F :=
  let ⟨f, fd, a, b⟩ := d.ex
  ⟨f, fd, a.mono h, b⟩
theorem startE_rel {am : AM} {H : Hp} {ds : List D} {vs : List V} {N : List Str} (h : VRs K am H ds vs) : RelE K am H (startE N.length ds) (L2.start N vs) := by
  refine ⟨?_, fun i d hd => ?_⟩
  · unfold startE L2.start
    simp [h.length]
  · unfold startE at hd
    unfold L2.start
    by_cases hi : i < ds.length
    · rw [List.getElem?_append_left (by simpa using hi), List.getElem?_map] at hd
      cases e : ds[i]? with
      | none => rw [e] at hd; cases hd
      | some z =>
        rw [e] at hd
        cases hd
        obtain ⟨v, hv, rv⟩ := h.get e
        refine ⟨v, ?_, rv⟩
        rw [List.getElem?_append_left (by rw [List.length_map, ← h.length]; exact hi), List.getElem?_map, hv]
        rfl
    · rw [List.getElem?_append_right (by simpa using hi), List.getElem?_replicate] at hd
      split at hd <;> cases hd
theorem qf_mk {k : Nat} {N ps : List Str} {st : Stmt} {x qual : Str} {f : Addr} {fd : FuncData} {m : Md} {body : Stm} (Fn : Fun K x qual st f fd) (Sc : FnScope N ps (defScope st))
    (hb : ∀ (cdv : Value) (A : Around) (outer : List PySem.Env) (s : Shared) (H : Hp) (E : XK), Room k (A.deeper (envOfC qual (defScope st) s.heap.objs.size f cdv)) →
      QB cl (fun c d _ H => E c d H) (cxOf (L2N.CX P w) P w K mg base N qual (defScope st) f cdv A outer s H E) (defBody st) body) :
    FnOk P w K mg base (L2N.CX P w) (k + 1) f fd ps (SpD K cl ps.length (runD m N.length body)) := by
  obtain ⟨oc, od, kV, doc, pm, an, cdv, ct, osl, rfl, lk, hcd⟩ := Fn.ex
  refine fn_of lk hcd Sc (fun vs H Q E h => ?_) (fun A outer s H vs Q E hr h => ⟨_, hb cdv A outer s H E hr, ?_⟩)
  · obtain ⟨am, ds, S, hl, _, hv, _⟩ := h
    rw [← hv.length, hl]
  · obtain ⟨am, ds, S, hl, rs, hv, p⟩ := h
    refine ⟨am, startE N.length ds, S, rs, startE_rel hv, ?_⟩
    unfold runD at p
    cases q : body (startE N.length ds) S with
    | next e S' =>
      rw [q] at p
      exact fun am' σ H' g rs' re' => fin_ok rs p g rs' .non
    | ret d S' =>
      rw [q] at p
      exact fun am' v H' g rs' rv => fin_ok rs p g rs' rv
    | brk e S' => rw [q] at p; exact p.elim
    | cnt e S' => rw [q] at p; exact p.elim
    | exc c e S' =>
      rw [q] at p
      intro am' σ H' g rs' re'
      have other : m ≠ .keep → Post K cl (fun c d _ H => E c d H) [] (VR K) am H (if Clo S S' then (.exc c (S'.take S.length) : Res D) else .bad) Q → E (.ref (cl c)) none H' := fun _ p => by
        by_cases hc : Clo S S'
        · rw [if_pos hc] at p
          exact p _ H' (g.cut (x := []) rs rs'.nd) (RelS.cut g rs rs' hc)
        · rw [if_neg hc] at p
          exact p.elim
      cases m with
      | keep => exact p am' H' g rs'
      | frz => exact other (fun z => nomatch z) p
      | new => exact other (fun z => nomatch z) p
    | bad => rw [q] at p; exact p.elim
theorem def_ok {k : Nat} {N ps : List Str} {st : Stmt} {x : Str} {m : Md} {body : Stm} (I : DefIn K mg x st ps) (Sc : FnScope N ps (defScope st))
    (hb : ∀ (f : Addr) (cdv : Value) (A : Around) (outer : List PySem.Env) (s : Shared) (H : Hp) (E : XK), Room k (A.deeper (envOfC x (defScope st) s.heap.objs.size f cdv)) →
      QB cl (fun c d _ H => E c d H) (cxOf (L2N.CX P w) P w K mg base N x (defScope st) f cdv A outer s H E) (defBody st) body) :
    DefOk P w K mg base cl x (k + 1) ps (runD m N.length body) := by
  obtain ⟨f, fd, Fn, hm, hbd⟩ := I.ex
  obtain ⟨oc, od, kV, doc, pm, an, cdv, ct, osl, e, lk, hcd⟩ := Fn.ex
  exact ⟨f, fd, qf_mk Fn Sc (hb f), hm, Fn.kp, hbd, oc, od, osl, lk⟩
/-- the law's own def, for the end -/
theorem law_fn {k : Nat} {x : Str} {F : List D → Sto → Res D} {st : Stmt} {ps : List Str} {fa : Addr} (I : DefIn K mg x st ps) (hfa : mg x = some (.ref fa)) : ∃ fd : FuncData, (∀ us : List Value, us.length = ps.length → bindArgs fd ⟨us, []⟩ = pure (ps.zip us)) ∧
    ∀ base : Heap, DefOk P w K mg base cl x k ps F → FnOk P w K mg base (L2N.CX P w) k fa fd ps (SpD K cl ps.length F) := by
  obtain ⟨f, fd, Fn, hm, hbd⟩ := I.ex
  obtain ⟨oc, od, kV, doc, pm, an, cdv, ct, osl, e, lk, hcd⟩ := Fn.ex
  cases hfa.symm.trans hm
  refine ⟨fd, hbd, fun base G => ?_⟩
  obtain ⟨f2, fd2, Fk, hm2, _, _, oc2, od2, osl2, lk2⟩ := G.ex
  cases hfa.symm.trans hm2
  rw [lk] at lk2
  cases lk2
  exact Fk
theorem defIn_mk {h : Heap} {x : Str} {st : Stmt} {ps : List Str} {f : Addr} {oc : Value} {od an : Option Addr} {osl : Array (Option Value)} {kV doc pm cdv ct : Value} (X : K.In h) (G : h.Ns mainGlobals mg)
    (a : PySem.W.nsIn K mainGlobals x = some (some (.ref f))) (l : K.lookup f = some ⟨oc, od, .func (PySem.W.fnOf x x (defArgs st) (defBody st) (defScope st) .none kV doc pm an cdv ct), osl⟩) (c : PySem.W.codeIn K cdv x = true) (k : PySem.W.keepIn K (.ref f) = true)
    (hb : ∀ (kV doc pm : Value) (an : Option Addr) (cdv ct : Value) (us : List Value), us.length = ps.length → bindArgs (PySem.W.fnOf x x (defArgs st) (defBody st) (defScope st) .none kV doc pm an cdv ct) ⟨us, []⟩ = pure (ps.zip us)) : DefIn K mg x st ps :=
  ⟨f, _, fun_mk l c k, PySem.W.mg_of X G a, hb kV doc pm an cdv ct⟩
end
noncomputable def eFn (F : List D → Sto → Res D) (fs : List (Ev D)) : Ev D := fun e S => (eArgs fs e S).bind F
section
variable {cl : Str → Addr} {W : WX} {X : Cx} {a b c : Expr} {es : List Expr} {f g h : Ev D} {fs : List (Ev D)} {pos p : Pos} {x : Str}
theorem qe_fn {k : Nat} {ps : List Str} {F : List D → Sto → Res D} (G : DefOk X.prog X.w X.K X.mg X.base cl x k ps F) (hr : Room k X.A) (hg : Gl X x) (tk : L2N.Takes X W) (ha : QA cl W X (a :: es) (eArgs fs)) (hn : fs.length = ps.length := by rfl) (hdb : (x == ("__debug__" : Str)) = false := by decide)
    (he : starEach (a :: es) X.env = (false, eval a X.env) :: starEach es X.env := by rfl) (hpl : (backTo pos (starEach es X.env)).any (·.1) = false := by rfl) : QE cl W X (.Call (.Name x p) (a :: es) [] pos) (eFn F fs) := by
  obtain ⟨ff, fd, Fk, hm, hk, hbd, _⟩ := G.ex
  refine (pe_callS Fk hr hg hm hk (.all hbd) (fun σ => L2N.passAt tk σ) ha hdb he hpl).imp fun σ H Q ⟨am, e, S, rs, re, p⟩ => ?_
  exact ⟨am, e, S, rs, re, (Post.step p).imp fun xs H1 ⟨am1, S1, ds, ee, g1, rs1, rvs, p1⟩ => ⟨am1, ds, S1, by rw [eArgs_len ee, hn], rs1, rvs, p1⟩⟩
end
noncomputable def keyOf : D → Option Key
  | .int i => some (.inl i)
  | .str x => some (.inr x)
  | _ => none
noncomputable def getK (kvs : List (Key × D)) (k : Key) : Option D := (kvs.find? fun kv => decide (kv.1 = k)).map (·.2)
noncomputable def putD (kvs : List (Key × D)) (k : Key) (v : D) : List (Key × D) := if (kvs.any fun kv => decide (kv.1 = k)) = true then kvs.map (fun kv => if kv.1 = k then (kv.1, v) else kv) else kvs ++ [(k, v)]
/-- o[i]: of a list, a tuple, a text, a dict -/
noncomputable def ixD (d i : D) (S : Sto) : Res D := match dcOf S d with
  | some kvs => match keyOf i with
    | some k => opt (getK kvs k) S
    | none => .bad
  | none => match i with
    | .int j => match d with
      | .str x => if x.length ≤ sizeLine then opt ((atI x.cps.toList j).map fun c => .str ⟨#[c]⟩) S else .bad
      | d => match sqOf S d with
        | some xs => opt (atI xs j) S
        | none => .bad
    | _ => .bad
section
variable {K : PySem.W.Frag} {cl : Str → Addr} {am : AM} {H : Hp} {S : Sto}
theorem keyOf_ok {d : D} {v : V} {k : Key} (h : VR K am H d v) (e : keyOf d = some k) : v = kV k := by
  cases h with
  | int i => cases e; rfl
  | str x => cases e; rfl
  | _ => cases e
theorem VRk.get : ∀ {ds : List (Key × D)} {vs : List (Key × V)} (k : Key), VRk K am H ds vs → (getK ds k = none ∧ valV vs k = none) ∨ ∃ d v, getK ds k = some d ∧ valV vs k = some v ∧ VR K am H d v
  | _, _, k, .nil => .inl ⟨rfl, rfl⟩
  | _, _, k, .cons (k := k') (d := d) (v := v) h t => by
    by_cases e : k' = k
    · subst e
      exact .inr ⟨d, v, by simp [getK], by simp [valV], h⟩
    · have ih := VRk.get k t
      unfold getK valV at ih ⊢
      rw [List.find?_cons_of_neg (by simpa using e), List.find?_cons_of_neg (by simpa using e)]
      exact ih
theorem VRk.any {ds : List (Key × D)} {vs : List (Key × V)} (k : Key) (h : VRk K am H ds vs) : (ds.any fun kv => decide (kv.1 = k)) = (vs.any fun kv => decide (kv.1 = k)) := by
  induction ds generalizing vs with
  | nil => cases h; rfl
  | cons p ds ih =>
    cases h with
    | cons h t => rw [List.any_cons, List.any_cons, ih t]
theorem VRk.map {ds : List (Key × D)} {vs : List (Key × V)} (k : Key) {d : D} {v : V} (hv : VR K am H d v) : VRk K am H ds vs → VRk K am H (ds.map fun kv => if kv.1 = k then (kv.1, d) else kv) (vs.map fun kv => if kv.1 = k then (kv.1, v) else kv) := fun h => by
  induction ds generalizing vs with
  | nil => cases h; exact .nil
  | cons p ds ih =>
    cases h with
    | @cons k' d' v' ds vs h t =>
      rw [List.map_cons, List.map_cons]
      by_cases e : k' = k
      · simp only [e, if_true]
        exact .cons hv (ih t)
      · simp only [if_neg e]
        exact .cons h (ih t)
theorem VRk.append : ∀ {ds es : List (Key × D)} {vs us : List (Key × V)}, VRk K am H ds vs → VRk K am H es us → VRk K am H (ds ++ es) (vs ++ us)
  | _, _, _, _, .nil, h => h
  | _, _, _, _, .cons h t, h' => .cons h (VRk.append t h')
theorem VRk.put {ds : List (Key × D)} {vs : List (Key × V)} (k : Key) {d : D} {v : V} (h : VRk K am H ds vs) (hv : VR K am H d v) : VRk K am H (putD ds k d) (putK vs k v) := by
  unfold putD putK
  rw [h.any k]
  by_cases e : (vs.any fun kv => decide (kv.1 = k)) = true
  · rw [if_pos e, if_pos e]
    exact h.map k hv
  · rw [if_neg e, if_neg e]
    exact h.append (.cons hv .nil)
theorem VRk.length : ∀ {ds : List (Key × D)} {vs : List (Key × V)}, VRk K am H ds vs → ds.length = vs.length
  | _, _, .nil => rfl
  | _, _, .cons _ t => by rw [List.length_cons, List.length_cons, VRk.length t]
theorem atI_some {ds : List D} {vs : List V} {j : Int} {d : D} (h : VRs K am H ds vs) (e : atI ds j = some d) : ∃ v, atI vs j = some v ∧ VR K am H d v := by
  unfold atI at e ⊢
  rw [← h.length]
  cases q : ixN ds.length j with
  | none => rw [q] at e; cases e
  | some n => rw [q] at e; exact h.get e
end
section
variable {cl : Str → Addr} {W : WX} {X : Cx} {a b c : Expr} {es : List Expr} {f g h : Ev D} {fs : List (Ev D)} {pos p : Pos} {x : Str}
noncomputable def rKey : R2 := fun x y H Q => ∃ a v, x = .ref a ∧ DGet H a y (some v) ∧ Q v H
theorem ix_key (hu : X.A.units + 1 < cLine) : IxR X rKey := by
  intro value slice pins s σ H x y v u Q I rx ry h hs
  obtain ⟨a, vv, rfl, g, q⟩ := h
  cases rx
  have hT := dict_typeIs I g
  unfold subscriptTail
  refine wpAny_bind ?_
  rw [getitemInPython_of_ne hT.not_modules]
  refine wpAny_bind (wpAny_specialOf hT PySem.F.slot_dict_getitem.lookup ?_)
  have fin : wpAny (model X.prog X.w) X.A (subscripted slice false (.ref a) u) (fun r s₃ => wpAny (model X.prog X.w) X.A (letTemporaryGo value (.ref a) r >>= fun _ => pure r) (EP X pins σ Q) X.xe s₃) X.xe s := by
    rw [hs]
    exact wpAny_operating (wpAny_mono (d_getItem hu I g ry fun w' s' I' rw' => (⟨vv, H, I', rw', q⟩ : EP X pins σ Q w' s')) (fun r s₃ h₃ => wpAny_bind (wpAny_letTemporaryGo (wpAny_pure h₃))) fun _ _ x => x)
  first
    | exact wpAny_pure (wpAny_bind fin)
    | exact wpAny_bind (wpAny_pure (wpAny_bind fin))
    | exact wpAny_bind fin
theorem qe_ix {k : Nat} (hr : Room k X.A) (ha : QE cl W X a f) (hb : QE cl W X b g) (hs : PlainIx b := by intro _ _; rfl) : QE cl W X (.Subscript a b pos) (e2 ixD f g) :=
  (pe_ix (ix_seq.or (ix_key (hu_of hr))) ha hb hs).imp (imp_2 fun W σ am S H d e v u Q rs h1 h2 p => by
    unfold ixD at p
    cases q : dcOf S d with
    | some kvs =>
      rw [q] at p
      obtain ⟨a, vs, ev, r1, hk⟩ := dcOf_ok rs h1 q
      simp only at p
      cases q2 : keyOf e with
      | none => rw [q2] at p; exact p.elim
      | some k =>
        rw [q2] at p
        simp only at p
        have eu := keyOf_ok h2 q2
        rcases hk.get k with ⟨g1, g2⟩ | ⟨d', v', g1, g2, rv⟩
        · rw [g1] at p; exact p.elim
        · rw [g1] at p
          refine .inr ⟨a, v', ev, .inl ⟨vs, k, .inl r1, eu, g2.symm⟩, p am v' H .refl rs rv⟩
    | none =>
      rw [q] at p
      simp only at p
      cases h2 with
      | int j =>
        have seq : Post X.K cl W σ (VR X.K) am H (match sqOf S d with | some xs => opt (atI xs j) S | none => .bad) Q → rIxL X.K v (.int j) H Q ∨ rIxT X.K v (.int j) H Q ∨ rIxS v (.int j) H Q := fun p => by
          cases q3 : sqOf S d with
          | none => rw [q3] at p; exact p.elim
          | some xs =>
            rw [q3] at p
            simp only at p
            obtain ⟨a, vs, ev, hq, hs⟩ := sqOf_ok rs h1 q3
            cases q4 : atI xs j with
            | none => rw [q4] at p; exact p.elim
            | some d' =>
              rw [q4] at p
              obtain ⟨v', hv', rv⟩ := atI_some hs q4
              have := p am v' H .refl rs rv
              rcases hq with hq | hq
              · exact .inl ⟨a, vs, j, v', ev, rfl, hq, hv', this⟩
              · exact .inr (.inl ⟨a, vs, j, v', ev, rfl, hq, hv', this⟩)
        refine .inl ?_
        cases h1 with
        | str x =>
          simp only at p
          by_cases hz : x.length ≤ sizeLine
          · rw [if_pos hz] at p
            cases q4 : atI x.cps.toList j with
            | none => rw [q4] at p; exact p.elim
            | some c =>
              rw [q4] at p
              exact .inr (.inr ⟨x, j, c, rfl, rfl, hz, q4, p am _ H .refl rs (.str _)⟩)
          · rw [if_neg hz] at p
            exact p.elim
        | _ => exact seq p
      | _ => exact p.elim)
noncomputable def QP (cl : Str → Addr) (W : WX) (X : Cx) (e : Option Expr) (f : Ev (Option Int)) : Prop := PO X e (TD X.K cl W (fun _ _ a b => a = b) f)
theorem _root_.L2.PO.imp {X : Cx} {e : Option Expr} {t t' : TO} (h : PO X e t) (i : ∀ σ H Q, t' σ H Q → t σ H Q) : PO X e t' := ⟨fun pins s σ H Q I q => h.run pins s σ H Q I (i σ H Q q)⟩
noncomputable def pN : Ev (Option Int) := fun _ S => .ok none S
noncomputable def pE (f : Ev D) : Ev (Option Int) := fun e S => (f e S).bind fun d S => match d with
  | .int i => .ok (some i) S
  | _ => .bad
theorem qp_n : QP cl W X none pN := po_none.imp fun σ H Q ⟨am, e, S, rs, re, p⟩ => p am none H .refl rs rfl
theorem qp_e (ha : QE cl W X a f) : QP cl W X (some a) (pE f) := (po_some ha).imp fun σ H Q ⟨am, e, S, rs, re, p⟩ =>
  ⟨am, e, S, rs, re, (Post.step p).imp fun x H1 ⟨am1, S1, d, _, g1, rs1, rv, p1⟩ => by
    cases rv with
    | int i => exact ⟨i, rfl, p1 am1 _ H1 .refl rs1 rfl⟩
    | _ => exact p1.elim⟩
noncomputable def cutL {α : Type} (xs : List α) (lo hi : Option Int) : List α := (xs.drop (HT.sIx xs.length 0 lo)).take (HT.sIx xs.length xs.length hi - HT.sIx xs.length 0 lo)
noncomputable def slD (d : D) (lo hi : Option Int) (S : Sto) : Res D := match d with
  | .str x => if x.length ≤ sizeLine then .ok (.str (cutS x lo hi)) S else .bad
  | .tup xs => .ok (.tup (cutL xs lo hi)) S
  | d => match lsOf S d with
    | some xs => .ok (.lst (cutL xs lo hi)) S
    | none => .bad
noncomputable def eSl (f : Ev D) (p q : Ev (Option Int)) : Ev D := fun e S => (f e S).bind fun d S => (p e S).bind fun lo S => (q e S).bind fun hi S => slD d lo hi S
theorem VRs.cutL {K : PySem.W.Frag} {am : AM} {H : Hp} {ds : List D} {vs : List V} (h : VRs K am H ds vs) (lo hi : Option Int) : VRs K am H (cutL ds lo hi) (cutV vs lo hi) := by
  unfold Pu.cutL cutV
  rw [← h.length]
  exact (h.drop _).take _
theorem cutL_all {α : Type} {xs : List α} {lo hi : Option Int} (h : HT.sIx xs.length 0 lo = 0 ∧ HT.sIx xs.length xs.length hi = xs.length) : cutL xs lo hi = xs := by
  unfold cutL
  rw [h.1, h.2]
  simp
theorem qe_sl {lo hi : Option Expr} {p2 : Pos} {p q : Ev (Option Int)} (ha : QE cl W X a f) (hl : QP cl W X lo p) (hh : QP cl W X hi q) : QE cl W X (.Subscript a (.Slice lo hi none p2) pos) (eSl f p q) :=
  (pe_slice (SlR.or sl_str (SlR.or sl_tupF sl_list)) ha hl hh).imp fun σ H Q ⟨am, e, S, rs, re, p⟩ =>
    ⟨am, e, S, rs, re, (Post.step p).imp fun x H1 ⟨am1, S1, d, _, g1, rs1, rv, p1⟩ =>
      ⟨am1, e, S1, rs1, re.mono g1, (Post.step p1).imp fun l H2 ⟨am2, S2, l', _, g2, rs2, rl, p2⟩ =>
        ⟨am2, e, S2, rs2, (re.mono g1).mono g2, (Post.step p2).imp fun u H3 ⟨am3, S3, u', _, g3, rs3, ru, p3⟩ => by
          have rl : l' = l := rl
          have ru : u' = u := ru
          subst rl ru
          have rv3 := (rv.mono g2).mono g3
          have ls : Post X.K cl W σ (VR X.K) am3 H3 (match lsOf S3 d with | some xs => .ok (.lst (cutL xs l' u')) S3 | none => .bad) Q → rSlL X.K x l' u' H3 Q := fun p => by
            cases q : lsOf S3 d with
            | none => rw [q] at p; exact p.elim
            | some xs =>
              rw [q] at p
              obtain ⟨a, vs, ev, r1, hs⟩ := lsOf_ok rs3 rv3 q
              exact ⟨a, vs, ev, r1, fun q hq => p am3 _ _ (Grow.upd hq) (rs3.upd hq) (VR.lstNew rs3 (hs.cutL l' u') hq)⟩
          cases rv3 with
          | str x =>
            simp only [slD] at p3
            by_cases hz : x.length ≤ sizeLine
            · rw [if_pos hz] at p3
              exact .inl ⟨x, rfl, hz, p3 am3 _ H3 .refl rs3 (.str _)⟩
            · rw [if_neg hz] at p3
              exact p3.elim
          | @tup a vs ds h1 h2 =>
            refine .inr (.inl ⟨a, vs, rfl, h1.seq, fun hw => ?_, fun hw q ob hq hd => ?_⟩)
            · refine p3 am3 _ H3 .refl rs3 ?_
              rw [cutL_all (by rw [h2.length]; exact hw)]
              exact .tup h1 h2
            · exact p3 am3 _ _ (Grow.upd hq) (rs3.upd hq) (VR.tupNew rs3 (h2.cutL l' u') hq hd)
          | lst _ _ _ => exact .inr (.inr (ls p3))
          | fls _ _ => exact .inr (.inr (ls p3))
          | ref _ => exact .inr (.inr (ls p3))
          | _ => exact p3.elim⟩⟩⟩
end
noncomputable def flatD : D → Bool
  | .non => true
  | .bl _ => true
  | .int _ => true
  | .str _ => true
  | _ => false
noncomputable def fEq : D → D → Bool
  | .non, .non => true
  | .bl a, .bl b => a == b
  | .bl a, .int b => (if a then 1 else 0) == b
  | .int a, .bl b => a == (if b then 1 else 0)
  | .int a, .int b => a == b
  | .str a, .str b => a == b
  | _, _ => false
noncomputable def inD (neg : Bool) (d o : D) (S : Sto) : Res D := match dcOf S o with
  | some kvs => match keyOf d with
    | some k => .ok (.bl (if neg = true then !(getK kvs k).isSome else (getK kvs k).isSome)) S
    | none => .bad
  | none => match o with
    | .str y => match d with
      | .str x => .ok (.bl (if neg = true then !(!(Builtin.Str.occurrences y x 0 y.length 1).isEmpty) else !(Builtin.Str.occurrences y x 0 y.length 1).isEmpty)) S
      | _ => .bad
    | .tup xs => if flatD d = true ∧ xs.all flatD = true then .ok (.bl (if neg = true then !(xs.any fun z => fEq z d) else xs.any fun z => fEq z d)) S else .bad
    | o => match lsOf S o with
      | some xs => if SeqAt.shaped d.py = true ∧ SeqAt.shaped (.list (pys xs)) = true then .ok (.bl (if neg = true then !((pys xs).any fun z => PyData.eqv z d.py) else (pys xs).any fun z => PyData.eqv z d.py)) S else .bad
      | none => .bad
section
variable {K : PySem.W.Frag} {cl : Str → Addr} {am : AM} {H : Hp} {S : Sto}
theorem flat_ok {d : D} {v : V} (h : VR K am H d v) (f : flatD d = true) : flatV v = true := by
  cases h <;> first | rfl | cases f
theorem flats_ok : ∀ {ds : List D} {vs : List V}, VRs K am H ds vs → ds.all flatD = true → vs.all flatV = true
  | _, _, .nil, _ => rfl
  | _, _, .cons h t, f => by
    rw [List.all_cons, Bool.and_eq_true] at f
    rw [List.all_cons, flat_ok h f.1, flats_ok t f.2]
    rfl
theorem fEq_ok {d e : D} {v u : V} (h : VR K am H d v) (h' : VR K am H e u) : fEq d e = eqV v u := by
  cases h <;> cases h' <;> rfl
theorem any_ok {d : D} {v : V} (h : VR K am H d v) : ∀ {ds : List D} {vs : List V}, VRs K am H ds vs → (ds.any fun z => fEq z d) = inV v vs
  | _, _, .nil => rfl
  | _, _, .cons h1 t => by
    have ih := any_ok h t
    unfold inV at ih ⊢
    rw [List.any_cons, List.any_cons, ih, fEq_ok h1 h]
theorem lsOf_py (r : RelS K cl am S H) {d : D} {v : V} (h : VR K am H d v) {xs : List D} (e : lsOf S d = some xs) (q : PyData.canLayAll0 (pys xs) = true) : Dp K H v (.list (pys xs)) := by
  obtain ⟨a, vs, ev, r1, hs⟩ := lsOf_ok r h e
  subst ev
  exact .lst r1 (hs.dp q)
end
section
variable {cl : Str → Addr} {W : WX} {X : Cx} {a b c : Expr} {es : List Expr} {f g h : Ev D} {fs : List (Ev D)} {pos p : Pos} {x : Str}
noncomputable def rKeyIn : R2 := fun y x H Q => ∃ a o, x = .ref a ∧ DGet H a y o ∧ Q (.bl o.isSome) H
noncomputable def rKeyNotIn : R2 := fun y x H Q => ∃ a o, x = .ref a ∧ DGet H a y o ∧ Q (.bl (!o.isSome)) H
theorem op_notInK (hu : X.A.units + 1 < cLine) : OpR X (compareOp .NotIn) rKeyNotIn := by
  intro pins s σ H y x v u Q I ry rx h
  obtain ⟨a, o, rfl, g, q⟩ := h
  cases rx
  exact d_notIn hu I g ry fun s3 I3 => ⟨.bl (!o.isSome), H, I3, rfl, q⟩
theorem units65 {k : Nat} {A : Around} (r : Room k A) : A.units + 65 < cLine := by have := r.un; omega
noncomputable def rInA (K : PySem.W.Frag) : R2 := fun x y H Q => rKeyIn x y H Q ∨ (∃ i j, x = .str i ∧ y = .str j ∧ Q (.bl (!(Builtin.Str.occurrences j i 0 j.length 1).isEmpty)) H) ∨ rIn K false x y H Q ∨ rInD K x y H Q
noncomputable def rNotInA (K : PySem.W.Frag) : R2 := fun x y H Q => rKeyNotIn x y H Q ∨ (∃ i j, x = .str i ∧ y = .str j ∧ Q (.bl (!(!(Builtin.Str.occurrences j i 0 j.length 1).isEmpty))) H) ∨ rIn K true x y H Q ∨ rNotInD K x y H Q
theorem op_notInA {k : Nat} (hr : Room k X.A) : OpR X (compareOp .NotIn) (rNotInA X.K) := OpR.or (op_notInK (hu_of hr)) (OpR.or op_notin_str (OpR.or op_notIn_seq (op_notInD (units65 hr))))
theorem ok_in (neg : Bool) : Ok2 X.K cl (fun x y H Q => if neg = true then rNotInA X.K x y H Q else rInA X.K x y H Q) (inD neg) := by
  intro W σ am S H d o v u Q rs h1 h2 p
  unfold inD at p
  cases q : dcOf S o with
  | some kvs =>
    rw [q] at p
    obtain ⟨a, vs, ev, r1, hk⟩ := dcOf_ok rs h2 q
    simp only at p
    cases q2 : keyOf d with
    | none => rw [q2] at p; exact p.elim
    | some k =>
      rw [q2] at p
      have eu := keyOf_ok h1 q2
      have e : (getK kvs k).isSome = (valV vs k).isSome := by
        rcases hk.get k with ⟨g1, g2⟩ | ⟨d', v', g1, g2, rv⟩
        · rw [g1, g2]
          rfl
        · rw [g1, g2]
          rfl
      have p' := p am _ H .refl rs (.bl _)
      rw [e] at p'
      cases neg with
      | true => exact .inl ⟨a, _, ev, .inl ⟨vs, k, .inl r1, eu, rfl⟩, p'⟩
      | false => exact .inl ⟨a, _, ev, .inl ⟨vs, k, .inl r1, eu, rfl⟩, p'⟩
  | none =>
    rw [q] at p
    have ls : Post X.K cl W σ (VR X.K) am H (match lsOf S o with
      | some xs => if SeqAt.shaped d.py = true ∧ SeqAt.shaped (.list (pys xs)) = true then .ok (.bl (if neg = true then !((pys xs).any fun z => PyData.eqv z d.py) else (pys xs).any fun z => PyData.eqv z d.py)) S else .bad
      | none => .bad) Q → if neg = true then rNotInA X.K v u H Q else rInA X.K v u H Q := fun p => by
      cases q3 : lsOf S o with
      | none => rw [q3] at p; exact p.elim
      | some xs =>
        rw [q3] at p
        simp only at p
        by_cases hc : SeqAt.shaped d.py = true ∧ SeqAt.shaped (.list (pys xs)) = true
        · rw [if_pos hc] at p
          have p' := p am _ H .refl rs (.bl _)
          have hd := h1.dp (SeqAt.canLay_of_shaped hc.1)
          have hl := lsOf_py rs h2 q3 (by simpa [PyData.canLay0] using SeqAt.canLay_of_shaped hc.2)
          cases neg with
          | true => exact .inr (.inr (.inr ⟨_, _, hd, hl, hc.1, hc.2, p'⟩))
          | false => exact .inr (.inr (.inr ⟨_, _, hd, hl, hc.1, hc.2, p'⟩))
        · rw [if_neg hc] at p
          exact p.elim
    cases h2 with
    | str y =>
      cases h1 with
      | str x =>
        have p' := p am _ H .refl rs (.bl _)
        cases neg with
        | true => exact .inr (.inl ⟨x, y, rfl, rfl, p'⟩)
        | false => exact .inr (.inl ⟨x, y, rfl, rfl, p'⟩)
      | _ => exact p.elim
    | @tup a vs xs t hs =>
      simp only at p
      by_cases hc : flatD d = true ∧ xs.all flatD = true
      · rw [if_pos hc] at p
        have p' := p am _ H .refl rs (.bl _)
        rw [any_ok h1 hs] at p'
        cases neg with
        | true => exact .inr (.inr (.inl ⟨a, vs, rfl, .inr t.seq, flat_ok h1 hc.1, flats_ok hs hc.2, p'⟩))
        | false => exact .inr (.inr (.inl ⟨a, vs, rfl, .inr t.seq, flat_ok h1 hc.1, flats_ok hs hc.2, p'⟩))
      · rw [if_neg hc] at p
        exact p.elim
    | lst h1 h2 h3 => exact ls p
    | fls h1 h3 => exact ls p
    | ref h1 => exact ls p
    | _ => exact p.elim
theorem qt_notIn {k : Nat} (hr : Room k X.A) (ha : QE cl W X a f) (hb : QE cl W X b g) (hm : behindInMarks .NotIn b = false := by rfl) : QT cl W X (.Compare a [.NotIn] [b] pos) (eTB (e2 (inD true) f g)) := qt_cmp (op_notInA hr) (ok_in true) ha hb hm
end
end Pu
set_option Elab.async false
set_option linter.all false
set_option maxRecDepth 100000
namespace Pu
open PySem PySem.Spec PyProof.Rows L2
/-- what is written into an object of the store -/
noncomputable def stD (o i v : D) (S : Sto) : Option Sto := match o with
  | .ref k => match S[k]? with
    | some (.lst xs) => match i with
      | .int j => (ixN xs.length j).map fun n => S.set k (.lst (xs.set n v))
      | _ => none
    | some (.dct kvs) => (keyOf i).bind fun q => if kvs.length < sizeLine then some (S.set k (.dct (putD kvs q v))) else none
    | _ => none
  | _ => none
/-- o[i] = v -/
noncomputable def sSt (f fo fi : Ev D) : Stm := fun e S => (f e S).stm e fun v S => (fo e S).stm e fun o S => (fi e S).stm e fun i S => match stD o i v S with
  | some S' => .next e S'
  | none => .bad
noncomputable def rSetA : TSet := fun o i v H Q => rSetL o i v H Q ∨ ∃ a H', o = .ref a ∧ DPut H a i v H' ∧ Q H'
section
variable {cl : Str → Addr} {W : WX} {X : Cx} {a b c : Expr} {es : List Expr} {f g h : Ev D} {fs : List (Ev D)} {pos p tpos : Pos} {x : Str}
theorem set_A (hu : X.A.units + 1 < cLine) : PSet X rSetA := by
  intro pins s σ H o i v ov iv u Q I ro ri rv h
  rcases h with h | ⟨a, H', rfl, g, q⟩
  · exact set_list pins s σ H o i v ov iv u Q I ro ri rv h
  · cases ro
    exact d_setItem hu I g ri rv fun s4 I4 => ⟨H', I4, q⟩
theorem st_ok {am : AM} {S S' : Sto} {H : Hp} {o i v : D} {ov iv vv : V} {Q : Hp → Prop} (rs : RelS X.K cl am S H) (h1 : VR X.K am H o ov) (h2 : VR X.K am H i iv) (h3 : VR X.K am H v vv) (e : stD o i v S = some S')
    (q : ∀ H', Grow am am H H' → RelS X.K cl am S' H' → Q H') : rSetA ov iv vv H Q := by
  cases h1 with
  | @ref k a hk =>
    simp only [stD] at e
    cases e1 : S[k]? with
    | none => rw [e1] at e; cases e
    | some ob =>
      rw [e1] at e
      cases ob with
      | lst xs =>
        obtain ⟨vs, r1, r2⟩ := rs.ob k _ a e1 hk
        cases h2 with
        | int j =>
          simp only at e
          cases e2 : ixN xs.length j with
          | none => rw [e2] at e; cases e
          | some n =>
            rw [e2] at e
            cases e
            have hm : a ∈ am.ad := List.mem_of_getElem? hk
            exact .inl ⟨a, vs, j, n, rfl, rfl, r1, by rw [← r2.length]; exact e2, q _ (Grow.put hm) (rs.put hk ⟨_, upd_same, (r2.setA n h3).mono (Grow.put hm)⟩)⟩
        | _ => cases e
      | dct kvs =>
        obtain ⟨vs, r1, r2⟩ := rs.ob k _ a e1 hk
        simp only at e
        cases e2 : keyOf i with
        | none => rw [e2] at e; cases e
        | some ky =>
          rw [e2] at e
          simp only [Option.bind_some] at e
          by_cases hz : kvs.length < sizeLine
          · rw [if_pos hz] at e
            cases e
            have hm : a ∈ am.ad := List.mem_of_getElem? hk
            exact .inr ⟨a, _, rfl, .inl ⟨vs, ky, r1, keyOf_ok h2 e2, by rw [← r2.length]; exact hz, rfl⟩, q _ (Grow.put hm) (rs.put hk ⟨_, upd_same, (r2.put ky h3).mono (Grow.put hm)⟩)⟩
          · rw [if_neg hz] at e
            cases e
      | ins c fs => cases e
      | fdc _ _ _ => cases e
  | _ => cases e
theorem qs_st {k : Nat} (hr : Room k X.A) (ha : QE cl W X a f) (hb : QE cl W X b g) (hc : QE cl W X c h) (hs : swapsWithSole [.Subscript b c tpos] a pos.line X.env = pure false := by rfl) (hw : swappedStores [.Subscript b c tpos] a X.env = pure none := by rfl)
    (h1 : (assignEach [.Subscript b c tpos] X.env).map (·.2) = [assign (.Subscript b c tpos) X.env] := by rfl)
    (h2 : ∀ v, assign (.Subscript b c tpos) X.env v = (do
      let ov ← holding [v] (eval b X.env)
      let iv ← holding [v, ov] (eval c X.env)
      standAt tpos
      holding [v, ov, iv] (setItem ov iv v)
      release [v, ov, iv] []) := by intro _; rfl) : QS cl W X (.Assign [.Subscript b c tpos] a pos) (sSt f g h) :=
  (ps_asg ha (pg_sub hb hc (set_A (hu_of hr)) h2) hs hw h1).imp fun E σ H ⟨am, e, S, rs, re, p⟩ =>
    ⟨am, e, S, rs, re, (PostS.step re p).imp fun x H1 ⟨am1, S1, d1, _, g1, rs1, rv1, p1⟩ =>
      ⟨am1, e, S1, rs1, re.mono g1, (PostS.step (re.mono g1) p1).imp fun y H2 ⟨am2, S2, d2, _, g2, rs2, rv2, p2⟩ =>
        ⟨am2, e, S2, rs2, (re.mono g1).mono g2, (PostS.step ((re.mono g1).mono g2) p2).imp fun z H3 ⟨am3, S3, d3, _, g3, rs3, rv3, p3⟩ => by
          cases q : stD d2 d3 d1 S3 with
          | none => simp only [q] at p3; exact p3.elim
          | some S' =>
            simp only [q] at p3
            exact st_ok rs3 (rv2.mono g3) rv3 ((rv1.mono g2).mono g3) q fun H' g4 rs4 => p3 am3 σ H' g4 rs4 ((((re.mono g1).mono g2).mono g3).mono g4)⟩⟩⟩
/-- name op= e -/
noncomputable def sAug (op : D → D → Sto → Res D) (i : Nat) (f : Ev D) : Stm := fun e S => (eVar i e S).stm e fun x S => (f e S).stm e fun y S => (op x y S).stm e fun z S => .next (e.set i (some z)) S
theorem qs_aug {i : Nat} {op : Operator} {r : R2} {o : D → D → Sto → Res D} {pos' : Pos} (ho : OpR X (inplaceOp op) r) (ok : Ok2 X.K cl r o) (hN : X.N.Nodup) (hi : X.N[i]? = some x) (hx : Loc X.env.scope x) (he : QE cl W X a f) (hf : X.fn x = true ∨ X.env.scope.names.lookup x = some .local := by first | exact .inl rfl | exact .inr rfl | assumption) :
    QS cl W X (.AugAssign (.Name x pos') op a pos) (sAug o i f) := (ps_aug (ti := r) hN hi hx he ho hf).imp fun E σ H ⟨am, e, S, rs, re, p⟩ => by
  unfold sAug eVar at p
  cases q : e[i]? with
  | none => simp only [q, Res.stm_bad] at p; exact p.elim
  | some z =>
    cases z with
    | none => simp only [q, Res.stm_bad] at p; exact p.elim
    | some d =>
      simp only [q, Res.stm_ok] at p
      obtain ⟨v, h1, h2⟩ := re.get i d q
      exact ⟨v, h1, am, e, S, rs, re, (PostS.step re p).imp fun y H1 ⟨am1, S1, d1, _, g1, rs1, rv1, p1⟩ =>
        ok W σ am1 S1 H1 d d1 v y _ rs1 (h2.mono g1) rv1 ((PostS.step (re.mono g1) p1).imp fun z H2 ⟨am2, S2, d2, _, g2, rs2, rv2, p2⟩ => p2 am2 _ H2 .refl rs2 (((re.mono g1).mono g2).set i rv2))⟩
theorem qs_augAdd {i : Nat} {pos' : Pos} (hN : X.N.Nodup) (hi : X.N[i]? = some x) (hx : Loc X.env.scope x) (he : QE cl W X a f) (hf : X.fn x = true ∨ X.env.scope.names.lookup x = some .local := by first | exact .inl rfl | exact .inr rfl | assumption) :
    QS cl W X (.AugAssign (.Name x pos') .Add a pos) (sAug (intD (fun _ _ => True) fun i j => .int (i + j)) i f) :=
  qs_aug iop_add (ok_intD (gv := fun i j => .int (i + j)) (fun _ _ _ _ => .int _) fun i j H Q _ q => ⟨i, j, rfl, rfl, q⟩) hN hi hx he hf
noncomputable def OkM (K : PySem.W.Frag) (cl : Str → Addr) (T : String) (r : V → List V → Hp → VK → Prop) (op : D → List D → Sto → Res D) : Prop :=
  ∀ (W : WX) (σ : L2.St) (am : AM) (S : Sto) (H : Hp) (o : D) (ds : List D) (x : V) (vs : List V) (Q : VK), RelS K cl am S H → VR K am H o x → VRs K am H ds vs → Post K cl W σ (VR K) am H (op o ds S) Q → r x vs H Q
/-- of the receiver, ahead of the arguments -/
noncomputable def isT (T : String) (o : D) (S : Sto) : Prop := match o with
  | .str _ => T = "str"
  | .int _ => T = "int"
  | o => (T = "list" ∧ (lsOf S o).isSome = true) ∨ (T = "dict" ∧ (dcOf S o).isSome = true)
noncomputable instance (T : String) (o : D) (S : Sto) : Decidable (isT T o S) := by unfold isT; cases o <;> infer_instance
theorem isT_ok {K : PySem.W.Frag} {am : AM} {S : Sto} {H : Hp} {T : String} {o : D} {x : V} (rs : RelS K cl am S H) (h : VR K am H o x) (t : isT T o S) : tyV K T x H := by
  have oth : ((T = "list" ∧ (lsOf S o).isSome = true) ∨ (T = "dict" ∧ (dcOf S o).isSome = true)) → tyV K T x H := fun t => by
    rcases t with ⟨e, t⟩ | ⟨e, t⟩
    · obtain ⟨xs, q⟩ := Option.isSome_iff_exists.mp t
      obtain ⟨a, vs, ev, r1, _⟩ := lsOf_ok rs h q
      subst ev
      exact .inl ⟨e, vs, r1⟩
    · obtain ⟨xs, q⟩ := Option.isSome_iff_exists.mp t
      obtain ⟨a, vs, ev, r1, _⟩ := dcOf_ok rs h q
      subst ev
      exact .inr (.inr (.inl ⟨e, .inl ⟨vs, r1⟩⟩))
  cases h with
  | str x => exact t
  | int i => exact t
  | non => rcases t with ⟨_, t⟩ | ⟨_, t⟩ <;> cases t
  | bl b => rcases t with ⟨_, t⟩ | ⟨_, t⟩ <;> cases t
  | tup _ _ => rcases t with ⟨_, t⟩ | ⟨_, t⟩ <;> cases t
  | _ => exact oth t
noncomputable def eM (T : String) (op : D → List D → Sto → Res D) (fo : Ev D) (fs : List (Ev D)) : Ev D := fun e S => (fo e S).bind fun o S => if isT T o S then (eArgs fs e S).bind fun ds S => op o ds S else .bad
variable {o : Expr} {name : Str} {apos cpos : Pos} {T id : String} {r : V → List V → Hp → VK → Prop} {op : D → List D → Sto → Res D}
theorem qe_bm (pa : PlainAttrs T) (slot : Slot T name id) (hty : typeOf (.builtin id) = pure (.type "method_descriptor")) (hm : MtR X id r) (ok : OkM X.K cl T r op) (ho : QE cl W X o g) (ha : QA cl W X (a :: es) (eArgs fs))
    (hbase : attributeBase o name X.env (eval o X.env) = eval o X.env := by rfl)
    (hfew : ((backTo cpos (starEach (a :: es) X.env)).all (fun x => !x.1) && (backToKw cpos (keywordEach [] X.env)).all (fun x => x.1.isSome)
      && decide ((a :: es).length + ([] : List Keyword).length + (if ([] : List Keyword).isEmpty then 0 else 1) < 30)) = true := by rfl)
    (hline : (apos.endLine == cpos.line) = true := by rfl) (hs : starEach (a :: es) X.env = (false, eval a X.env) :: starEach es X.env := by rfl) (hplain : (backTo cpos (starEach es X.env)).any (·.1) = false := by rfl) :
    QE cl W X (.Call (.Attribute o name apos) (a :: es) [] cpos) (eM T op g fs) := (pe_bm pa slot hty hm ho ha hbase hfew hline hs hplain).imp fun σ H Q ⟨am, e, S, rs, re, p⟩ =>
  ⟨am, e, S, rs, re, (Post.step p).imp fun x H1 ⟨am1, S1, d1, _, g1, rs1, rv1, p1⟩ => by
    by_cases ht : isT T d1 S1
    · rw [if_pos ht] at p1
      exact ⟨isT_ok rs1 rv1 ht, am1, e, S1, rs1, re.mono g1, (Post.step p1).imp fun vs H2 ⟨am2, S2, ds, _, g2, rs2, rvs, p2⟩ => ok W σ am2 S2 H2 d1 ds x vs Q rs2 (rv1.mono g2) rvs p2⟩
    · rw [if_neg ht] at p1
      exact p1.elim⟩
/-- xs.append(y) -/
noncomputable def appD (o : D) (ds : List D) (S : Sto) : Res D := match o, ds with
  | .ref k, [y] => match S[k]? with
    | some (.lst xs) => if xs.length < sizeLine then .ok .non (S.set k (.lst (xs ++ [y]))) else .bad
    | _ => .bad
  | _, _ => .bad
theorem ok_app : OkM X.K cl "list" rAppend appD := by
  intro W σ am S H o ds x vs Q rs h1 h2 p
  cases h1 with
  | @ref k a hk =>
    cases h2 with
    | nil => exact p.elim
    | cons r1 r2 =>
      cases r2 with
      | cons _ _ => exact p.elim
      | nil =>
        simp only [appD] at p
        cases e1 : S[k]? with
        | none => rw [e1] at p; exact p.elim
        | some ob =>
          rw [e1] at p
          cases ob with
          | lst xs =>
            obtain ⟨us, q1, q2⟩ := rs.ob k _ a e1 hk
            simp only at p
            by_cases hz : xs.length < sizeLine
            · rw [if_pos hz] at p
              have hm : a ∈ am.ad := List.mem_of_getElem? hk
              exact ⟨a, us, _, rfl, rfl, q1, by rw [← q2.length]; exact hz, p am _ _ (Grow.put hm) (rs.put hk ⟨_, upd_same, (q2.append (.cons r1 .nil)).mono (Grow.put hm)⟩) .non⟩
            · rw [if_neg hz] at p
              exact p.elim
          | _ => exact p.elim
  | _ => exact p.elim
theorem qe_append (ho : QE cl W X o g) (ha : QE cl W X a f) (h0 : starEach [a] X.env = (false, eval a X.env) :: starEach [] X.env := by rfl)
    (hbase : attributeBase o "append" X.env (eval o X.env) = eval o X.env := by rfl)
    (hfew : ((backTo cpos (starEach [a] X.env)).all (fun x => !x.1) && (backToKw cpos (keywordEach [] X.env)).all (fun x => x.1.isSome)
      && decide (([a] : List Expr).length + ([] : List Keyword).length + (if ([] : List Keyword).isEmpty then 0 else 1) < 30)) = true := by rfl)
    (hline : (apos.endLine == cpos.line) = true := by rfl) (hplain : (backTo cpos (starEach [] X.env)).any (·.1) = false := by rfl) :
    QE cl W X (.Call (.Attribute o "append" apos) [a] [] cpos) (eM "list" appD g [f]) := qe_bm PySem.F.plainAttrs_list PySem.F.slot_list_append PySem.F.type_list_append mt_append ok_app ho (qa_cons ha qa_nil h0) hbase hfew hline h0 hplain
noncomputable def lenD (ds : List D) (S : Sto) : Res D := match ds with
  | [d] => match dcOf S d with
    | some kvs => match d with
      | .fls _ => .bad
      | _ => .ok (.int kvs.length) S
    | none => match d with
      | .str x => if x.length ≤ sizeLine then .ok (.int x.length) S else .bad
      | d => match sqOf S d with
        | some xs => .ok (.int xs.length) S
        | none => .bad
  | _ => .bad
theorem call_lenA : CallR X (.builtin "len") (fun xs H Q => (∃ x n, xs = [x] ∧ LenV X.K x H n ∧ Q (.int n) H) ∨ ∃ a kvs, xs = [V.ref a] ∧ H a = some (.dK kvs) ∧ Q (.int kvs.length) H) := CallR.or call_len call_lenD
theorem ok_len : OkN X.K cl (fun xs H Q => (∃ x n, xs = [x] ∧ LenV X.K x H n ∧ Q (.int n) H) ∨ ∃ a kvs, xs = [V.ref a] ∧ H a = some (.dK kvs) ∧ Q (.int kvs.length) H) lenD := by
  intro W σ am S H ds vs Q rs h p
  cases h with
  | nil => exact p.elim
  | @cons d v ds vs r1 r2 =>
    cases r2 with
    | cons _ _ => exact p.elim
    | nil =>
      simp only [lenD] at p
      cases q : dcOf S d with
      | some kvs =>
        rw [q] at p
        obtain ⟨a, us, ev, q1, q2⟩ := dcOf_ok rs r1 q
        subst ev
        refine .inr ⟨a, us, rfl, q1, ?_⟩
        rw [← q2.length]
        cases r1 with
        | fls _ _ => cases q
        | _ => exact p am _ H .refl rs (.int _)
      | none =>
        rw [q] at p
        have sq : Post X.K cl W σ (VR X.K) am H (match sqOf S d with | some xs => .ok (.int xs.length) S | none => .bad) Q → ∃ x n, [v] = [x] ∧ LenV X.K x H n ∧ Q (.int n) H := fun p => by
          cases q3 : sqOf S d with
          | none => rw [q3] at p; exact p.elim
          | some xs =>
            rw [q3] at p
            obtain ⟨a, us, ev, hq, hs⟩ := sqOf_ok rs r1 q3
            subst ev
            refine ⟨_, xs.length, rfl, ?_, p am _ H .refl rs (.int _)⟩
            rcases hq with hq | hq
            · exact .inl ⟨us, hq, hs.length⟩
            · exact .inr ⟨us, hq, hs.length⟩
        cases r1 with
        | str x =>
          simp only at p
          by_cases hz : x.length ≤ sizeLine
          · rw [if_pos hz] at p
            exact .inl ⟨_, x.length, rfl, ⟨hz, rfl⟩, p am _ H .refl rs (.int _)⟩
          · rw [if_neg hz] at p
            exact p.elim
        | _ => exact .inl (sq p)
/-- int of a truth or a number -/
noncomputable def int1D (ds : List D) (S : Sto) : Res D := match ds with
  | [.int i] => .ok (.int i) S
  | [.bl b] => .ok (.int (if b then 1 else 0)) S
  | _ => .bad
theorem ok_int1 : OkN X.K cl (fun xs H Q => (∃ i, xs = [.int i] ∧ Q (.int i) H) ∨ ∃ k, xs = [.bl k] ∧ Q (.int (if k then 1 else 0)) H) int1D := by
  intro W σ am S H ds vs Q rs h p
  cases h with
  | nil => exact p.elim
  | cons r1 r2 =>
    cases r2 with
    | cons _ _ => cases r1 <;> exact p.elim
    | nil =>
      cases r1 with
      | int i => exact .inl ⟨i, rfl, p am _ H .refl rs (.int _)⟩
      | bl b => exact .inr ⟨b, rfl, p am _ H .refl rs (.int _)⟩
      | _ => exact p.elim
/-- tuple of a list or a tuple -/
noncomputable def tupD (ds : List D) (S : Sto) : Res D := match ds with
  | [d] => match sqOf S d with
    | some xs => .ok (.tup xs) S
    | none => .bad
  | _ => .bad
theorem ok_tup : OkN X.K cl (fun xs H Q => ∃ p ys, xs = [.ref p] ∧ ((SqL X.K H p ys ∧ NT ys H Q) ∨ (SqT X.K H p ys ∧ Q (.ref p) H))) tupD := by
  intro W σ am S H ds vs Q rs h p
  cases h with
  | nil => exact p.elim
  | @cons d v ds vs r1 r2 =>
    cases r2 with
    | cons _ _ => exact p.elim
    | nil =>
      simp only [tupD] at p
      have ls : Post X.K cl W σ (VR X.K) am H (match lsOf S d with | some xs => .ok (.tup xs) S | none => .bad) Q → ∃ p ys, [v] = [.ref p] ∧ ((SqL X.K H p ys ∧ NT ys H Q) ∨ (SqT X.K H p ys ∧ Q (.ref p) H)) := fun p => by
        cases q : lsOf S d with
        | none => rw [q] at p; exact p.elim
        | some xs =>
          rw [q] at p
          obtain ⟨a, us, ev, q1, q2⟩ := lsOf_ok rs r1 q
          subst ev
          exact ⟨a, us, rfl, .inl ⟨q1, fun l ob hl hd => p am _ _ (Grow.upd hl) (rs.upd hl) (VR.tupNew rs q2 hl hd)⟩⟩
      cases r1 with
      | @tup a us xs t hs => exact ⟨a, us, rfl, .inr ⟨t.seq, p am _ H .refl rs (.tup t hs)⟩⟩
      | lst _ _ _ => exact ls p
      | fls _ _ => exact ls p
      | ref _ => exact ls p
      | _ => exact p.elim
/-- all, any of a list of truths -/
noncomputable def bools : List D → Option (List Bool)
  | [] => some []
  | .bl b :: xs => (bools xs).map (b :: ·)
  | _ :: _ => none
noncomputable def intsL : List D → Option (List Int)
  | [] => some []
  | .int b :: xs => (intsL xs).map (b :: ·)
  | _ :: _ => none
@[simp] theorem bools_map (bs : List Bool) : bools (bs.map D.bl) = some bs := by
  induction bs with
  | nil => rfl
  | cons b bs ih => rw [List.map_cons]; simp only [bools, ih, Option.map_some]
@[simp] theorem ints_map (bs : List Int) : intsL (bs.map D.int) = some bs := by
  induction bs with
  | nil => rfl
  | cons b bs ih => rw [List.map_cons]; simp only [intsL, ih, Option.map_some]
theorem ints_ok {K : PySem.W.Frag} {am : AM} {H : Hp} : ∀ {ds : List D} {vs : List V} {bs : List Int}, VRs K am H ds vs → intsL ds = some bs → vs = bs.map V.int
  | _, _, _, .nil, e => by cases e; rfl
  | _, _, _, .cons (ds := ds) h t, e => by
    cases h with
    | int b =>
      simp only [intsL] at e
      cases q : intsL ds with
      | none => rw [q] at e; cases e
      | some bs =>
        rw [q] at e
        cases e
        rw [List.map_cons, ints_ok t q]
    | _ => cases e
/-- sum of a list of whole numbers -/
noncomputable def intsD (f : List Int → D) (ds : List D) (S : Sto) : Res D := match ds with
  | [d] => match (lsOf S d).bind intsL with
    | some bs => .ok (f bs) S
    | none => .bad
  | _ => .bad
theorem ok_sum : OkN X.K cl (rSum X.K) (intsD fun ns => .int ns.sum) := by
  intro W σ am S H ds vs Q rs h p
  cases h with
  | nil => exact p.elim
  | @cons d v ds vs r1 r2 =>
    cases r2 with
    | cons _ _ => exact p.elim
    | nil =>
      simp only [intsD] at p
      cases q : lsOf S d with
      | none => simp only [q, Option.bind_none] at p; exact p.elim
      | some xs =>
        simp only [q, Option.bind_some] at p
        cases q2 : intsL xs with
        | none => rw [q2] at p; exact p.elim
        | some bs =>
          rw [q2] at p
          obtain ⟨a, us, ev, q1, q3⟩ := lsOf_ok rs r1 q
          subst ev
          have e := ints_ok q3 q2
          subst e
          exact ⟨a, bs, rfl, q1, p am _ H .refl rs (.int _)⟩
/-- of two whole numbers -/
noncomputable def ii2D (f : Int → Int → Int) (ds : List D) (S : Sto) : Res D := match ds with
  | [.int i, .int j] => .ok (.int (f i j)) S
  | _ => .bad
theorem ok_ii2 {fi : Int → Int → Int} {r : List V → Hp → VK → Prop} (hr : ∀ i j H Q, Q (.int (fi i j)) H → r [.int i, .int j] H Q) : OkN X.K cl r (ii2D fi) := by
  intro W σ am S H ds vs Q rs h p
  cases h with
  | nil => exact p.elim
  | cons r1 r2 =>
    cases r2 with
    | nil => cases r1 <;> exact p.elim
    | cons r2 r3 =>
      cases r3 with
      | nil =>
        cases r1 with
        | int i =>
          cases r2 with
          | int j => exact hr i j H Q (p am _ H .refl rs (.int _))
          | _ => exact p.elim
        | _ => cases r2 <;> exact p.elim
      | cons _ _ => cases r1 <;> cases r2 <;> exact p.elim
noncomputable def maxI (i j : Int) : Int := if j > i then j else i
noncomputable def minI (i j : Int) : Int := if j < i then j else i
variable (hm : X.mg x = none)
/-- calls by name -/
theorem qe_len (hg : Gl X "len") (hm : X.mg "len" = none) (ha : QA cl W X [a] (eArgs fs)) (he : starEach [a] X.env = (false, eval a X.env) :: starEach [] X.env := by rfl) (hpl : (backTo pos (starEach [] X.env)).any (·.1) = false := by rfl) : QE cl W X (.Call (.Name "len" p) [a] [] pos) (eCall lenD fs) := qe_callB call_lenA ok_len hg hm PySem.boot_len ha (by decide) (by decide) he hpl
theorem qe_intOf (hg : Gl X "int") (hm : X.mg "int" = none) (ha : QA cl W X [a] (eArgs fs)) (he : starEach [a] X.env = (false, eval a X.env) :: starEach [] X.env := by rfl) (hpl : (backTo pos (starEach [] X.env)).any (·.1) = false := by rfl) : QE cl W X (.Call (.Name "int" p) [a] [] pos) (eCall int1D fs) := qe_callT call_int1 ok_int1 hg hm (by decide +kernel) ha (by decide) (by decide) he hpl
theorem qe_tuple (hg : Gl X "tuple") (hm : X.mg "tuple" = none) (ha : QA cl W X [a] (eArgs fs)) (he : starEach [a] X.env = (false, eval a X.env) :: starEach [] X.env := by rfl) (hpl : (backTo pos (starEach [] X.env)).any (·.1) = false := by rfl) : QE cl W X (.Call (.Name "tuple" p) [a] [] pos) (eCall tupD fs) := qe_callT cr_tupleF ok_tup hg hm (by decide +kernel) ha (by decide) (by decide) he hpl
theorem qe_sum (hc : X.calm = true) (hg : Gl X "sum") (hm : X.mg "sum" = none) (ha : QA cl W X [a] (eArgs fs)) (he : starEach [a] X.env = (false, eval a X.env) :: starEach [] X.env := by rfl) (hpl : (backTo pos (starEach [] X.env)).any (·.1) = false := by rfl) : QE cl W X (.Call (.Name "sum" p) [a] [] pos) (eCall (intsD fun ns => .int ns.sum) fs) := qe_callB (cr_sum hc) ok_sum hg hm (by decide +kernel) ha (by decide) (by decide) he hpl
theorem qe_max2 (hc : X.calm = true) (hg : Gl X "max") (hm : X.mg "max" = none) (ha : QA cl W X [a, b] (eArgs fs)) (he : starEach [a, b] X.env = (false, eval a X.env) :: starEach [b] X.env := by rfl) (hpl : (backTo pos (starEach [b] X.env)).any (·.1) = false := by rfl) : QE cl W X (.Call (.Name "max" p) [a, b] [] pos) (eCall (ii2D maxI) fs) := qe_callB (call_max2 hc) (ok_ii2 fun i j H Q q => ⟨i, j, rfl, q⟩) hg hm (by decide +kernel) ha (by decide) (by decide) he hpl
theorem qe_min2 (hc : X.calm = true) (hg : Gl X "min") (hm : X.mg "min" = none) (ha : QA cl W X [a, b] (eArgs fs)) (he : starEach [a, b] X.env = (false, eval a X.env) :: starEach [b] X.env := by rfl) (hpl : (backTo pos (starEach [b] X.env)).any (·.1) = false := by rfl) : QE cl W X (.Call (.Name "min" p) [a, b] [] pos) (eCall (ii2D minI) fs) := qe_callB (call_min2 hc) (ok_ii2 fun i j H Q q => ⟨i, j, rfl, q⟩) hg hm (by decide +kernel) ha (by decide) (by decide) he hpl
end
section
variable {K : PySem.W.Frag} {cl : Str → Addr}
theorem law_sp {F : List D → Sto → Res D} (h : ∀ ns : List Int, ns.length ≤ 63 → ∃ S, F [.fls (ns.map D.int)] [] = .ok (.bl true) S) (H : Hp) (a : Addr) (ns : List Int) (hl : ns.length ≤ 63) (hs : SqL K H a (ns.map V.int)) :
    SpD K cl 1 F [.ref a] H (fun v _ => v = .bl true) (fun _ _ _ => False) := by
  obtain ⟨S, e⟩ := h ns hl
  refine ⟨⟨[], [], fun _ h => h⟩, [.fls (ns.map D.int)], [], rfl, ⟨rfl, .nil, fun k o a h => by simp at h, fun a h => by simp at h⟩, .cons (.fls (vs := ns.map V.int) ?_ ?_) .nil, ?_⟩
  · rcases hs with hs | hs
    · exact .inl ⟨hs, by simp⟩
    · exact .inr hs
  · clear e hl hs h
    induction ns with
    | nil => exact .nil
    | cons n ns ih => exact .cons (.int n) ih
  · rw [e]
    intro am' v H' g rs rv
    cases rv
    rfl
theorem cx_no {P : Program} {w : World} {o : List PySem.Env} {H : Hp} {s : Shared} {e : Value} {s' : Shared} (h : L2N.CX P w o H s (fun _ _ _ => False) e s') : False := by
  obtain ⟨_, _, _, _, _, _, _, _, _, _, _, _, z⟩ := h
  exact z
end
end Pu
set_option Elab.async false
set_option linter.all false
set_option maxRecDepth 100000
namespace Pu
open PySem PySem.Spec PyProof.Rows L2
section
variable {α : Type} {e : En} {S : Sto} {f g h : Ev D} {fs : List (Ev D)} {a b c : Stm} {s t : Ev Bool}
@[simp] theorem ap_C {d : D} : eC d e S = .ok d S := id rfl
@[simp] theorem ap_Var0 {d : D} {r : En} : eVar 0 (some d :: r) S = .ok d S := id rfl
@[simp] theorem ap_VarS {i : Nat} {x : Option D} {r : En} : eVar (i + 1) (x :: r) S = eVar i r S := by simp [eVar]
@[simp] theorem ap_1 {o : D → Sto → Res D} : e1 o f e S = (f e S).bind fun x S => o x S := id rfl
@[simp] theorem ap_2 {o : D → D → Sto → Res D} : e2 o f g e S = (f e S).bind fun x S => (g e S).bind fun y S => o x y S := id rfl
@[simp] theorem ap_TB : eTB f e S = (f e S).bind toB := id rfl
@[simp] theorem ap_Ch {o o' : D → D → Sto → Res D} : eCh o o' f g h e S = (f e S).bind fun x S => (g e S).bind fun y S => (o x y S).bind fun z S => (toB z S).bind fun k S => if k = true then (h e S).bind fun w S => o' y w S else .ok (.bl false) S := id rfl
@[simp] theorem ap_tAnd : tAndD s t e S = (s e S).bind fun b S => if b = true then t e S else .ok false S := id rfl
@[simp] theorem ap_tOr : tOrD s t e S = (s e S).bind fun b S => if b = true then .ok true S else t e S := id rfl
@[simp] theorem ap_tNot : tNotD s e S = (s e S).bind fun b S => .ok (!b) S := id rfl
@[simp] theorem ap_eAnd : eAndD f g e S = (f e S).bind fun d S => (toB d S).bind fun b S => if b = true then g e S else .ok (.bl false) S := id rfl
@[simp] theorem ap_eOr : eOrD f g e S = (f e S).bind fun d S => (toB d S).bind fun b S => if b = true then .ok (.bl true) S else g e S := id rfl
@[simp] theorem ap_eNot : eNotD f e S = (f e S).bind fun d S => (toB d S).bind fun b S => .ok (.bl (!b)) S := id rfl
@[simp] theorem ap_eIf : eIf t f g e S = (t e S).bind fun b S => if b = true then f e S else g e S := id rfl
@[simp] theorem ap_Tr : eTr f e S = (f e S).bind truD := id rfl
@[simp] theorem ap_Args0 : eArgs [] e S = .ok [] S := id rfl
@[simp] theorem ap_Args : eArgs (f :: fs) e S = (f e S).bind fun x S => (eArgs fs e S).bind fun xs S => .ok (x :: xs) S := id rfl
@[simp] theorem ap_Tup : eTup fs e S = (eArgs fs e S).bind fun xs S => .ok (.tup xs) S := id rfl
@[simp] theorem ap_Call {op : List D → Sto → Res D} : eCall op fs e S = (eArgs fs e S).bind op := id rfl
@[simp] theorem ap_Fn {op : List D → Sto → Res D} : eFn op fs e S = (eArgs fs e S).bind op := id rfl
@[simp] theorem ap_nLst : nLst fs e S = (eArgs fs e S).bind fun xs S => .ok (.lst xs) S := id rfl
@[simp] theorem ap_nDct0 : nDct0 e S = .ok (.dct []) S := id rfl
@[simp] theorem ap_Ano {n : Ev DO} : eAno n e S = (n e S).bind anoD := id rfl
@[simp] theorem ap_New {n : Ev DO} : eNew n e S = (n e S).bind fun o S => .ok (.ref S.length) (S ++ [o]) := id rfl
@[simp] theorem ap_M {T : String} {op : D → List D → Sto → Res D} : eM T op f fs e S = (f e S).bind fun o S => if isT T o S then (eArgs fs e S).bind fun ds S => op o ds S else .bad := id rfl
@[simp] theorem ap_Sl {p q : Ev (Option Int)} : eSl f p q e S = (f e S).bind fun d S => (p e S).bind fun lo S => (q e S).bind fun hi S => slD d lo hi S := id rfl
@[simp] theorem ap_pN : pN e S = .ok none S := id rfl
@[simp] theorem ap_pE : pE f e S = (f e S).bind fun d S => match d with
  | .int i => .ok (some i) S
  | _ => .bad := rfl
@[simp] theorem ap_yes : tYesD e S = .ok true S := id rfl
@[simp] theorem ap_Set {i : Nat} : sSet i f e S = (f e S).stm e fun d S => .next (e.set i (some d)) S := id rfl
@[simp] theorem ap_Ret : sRet f e S = (f e S).stm e fun d S => .ret d S := id rfl
@[simp] theorem ap_Expr : sExpr f e S = (f e S).stm e fun _ S => .next e S := id rfl
@[simp] theorem ap_Next : sNext e S = .next e S := id rfl
@[simp] theorem ap_Brk : sBrk e S = .brk e S := id rfl
@[simp] theorem ap_Seq : sSeq a b e S = (a e S).seq b := id rfl
@[simp] theorem ap_If : sIf t a b e S = (t e S).stm e fun k S => if k = true then a e S else b e S := id rfl
@[simp] theorem ap_St : sSt f g h e S = (f e S).stm e fun v S => (g e S).stm e fun o S => (h e S).stm e fun i S => match stD o i v S with
  | some S' => .next e S'
  | none => .bad := rfl
@[simp] theorem ap_Asg {tg : Tg} : sAsg tg f e S = (f e S).stm e fun d S => match bindT tg d e with
  | some e' => .next e' S
  | none => .bad := rfl
@[simp] theorem ap_Aug {op : D → D → Sto → Res D} {i : Nat} : sAug op i f e S = (eVar i e S).stm e fun x S => (f e S).stm e fun y S => (op x y S).stm e fun z S => .next (e.set i (some z)) S := id rfl
noncomputable def fgtR (vs : List Nat) (r : SRes) : SRes := match r with
  | .next e S => .next (wipeE e vs) S
  | r => r
@[simp] theorem ap_Fgt {vs : List Nat} : sFgt vs a e S = fgtR vs (a e S) := id rfl
@[simp] theorem fgt_next {vs : List Nat} : fgtR vs (.next e S) = .next (wipeE e vs) S := id rfl
@[simp] theorem fgt_ret {vs : List Nat} {d : D} : fgtR vs (.ret d S) = .ret d S := id rfl
@[simp] theorem fgt_brk {vs : List Nat} : fgtR vs (.brk e S) = .brk e S := id rfl
@[simp] theorem fgt_bad {vs : List Nat} : fgtR vs .bad = .bad := id rfl
@[simp] theorem ap_For {dead : List Nat} {tg : Tg} {it : Ev Src} : sFor dead tg it a e S = (it e S).stm e fun src S => forD dead tg src a src.items e S := id rfl
@[simp] theorem ap_iL : iL f e S = (f e S).bind srcL := id rfl
@[simp] theorem ap_iT : iT f e S = (f e S).bind srcT := id rfl
@[simp] theorem ap_iR1 : iR1 f e S = (f e S).bind fun x S => srcR1 [x] S := by
  unfold iR1
  simp only [ap_Args, ap_Args0]
  cases f e S <;> rfl
@[simp] theorem ap_iR2 : iR2 f g e S = (f e S).bind fun x S => (g e S).bind fun y S => srcR2 [x, y] S := by
  unfold iR2
  simp only [ap_Args, ap_Args0]
  cases f e S with
  | ok a S1 => simp only [Res.bind_ok]; cases g e S1 <;> rfl
  | exc c S1 => rfl
  | bad => rfl
@[simp] theorem ap_Lc {vs : List Nat} {tg : Tg} {it : Ev Src} : nLc vs tg it t f e S = (it e S).bind fun src S => if src.items.length ≤ sizeLine then (lcD tg src t f (wipeE e vs) src.items S).bind fun ds S => .ok (.lst ds) S else .bad := id rfl
@[simp] theorem wipe_nil : wipeE e [] = e := id rfl
@[simp] theorem wipe_cons {v : Nat} {vs : List Nat} : wipeE e (v :: vs) = (wipeE e vs).set v none := id rfl
@[simp] theorem bindT_nm {i : Nat} {d : D} : bindT (.nm i) d e = some (e.set i (some d)) := id rfl
@[simp] theorem bindT_tp {ts : List Tg} {ds : List D} : bindT (.tp ts) (.tup ds) e = bindTs ts ds e := id rfl
@[simp] theorem bindT_tpi {ts : List Tg} {ds : List D} : bindT (.tp ts) (.tpi ds) e = bindTs ts ds e := id rfl
@[simp] theorem bindTs_nil : bindTs [] [] e = some e := id rfl
@[simp] theorem bindTs_cons {t : Tg} {ts : List Tg} {d : D} {ds : List D} : bindTs (t :: ts) (d :: ds) e = (bindT t d e).bind fun e => bindTs ts ds e := id rfl
/-- operations -/
@[simp] theorem addD_int {i j : Int} : addD (.int i) (.int j) S = .ok (.int (i + j)) S := id rfl
@[simp] theorem addD_tup {i j : List D} : addD (.tup i) (.tup j) S = if i.length + j.length ≤ sizeLine then .ok (.tup (i ++ j)) S else .bad := id rfl
@[simp] theorem addD_str {i j : Str} : addD (.str i) (.str j) S = if i.length + j.length ≤ sizeLine then .ok (.str (i ++ j)) S else .bad := id rfl
@[simp] theorem mulD_int {i j : Int} : mulD (.int i) (.int j) S = if FitMul i j then .ok (.int (i * j)) S else .bad := id rfl
@[simp] theorem negD_int {i : Int} : negD (.int i) S = .ok (.int (-i)) S := id rfl
@[simp] theorem isND_ap {neg : Bool} {d : D} : isND neg d S = .ok (.bl (if neg = true then !d.isN else d.isN)) S := id rfl
@[simp] theorem isN_non : D.non.isN = true := id rfl
@[simp] theorem isN_int {i : Int} : (D.int i).isN = false := id rfl
@[simp] theorem isN_tup {i : List D} : (D.tup i).isN = false := id rfl
@[simp] theorem isN_str {i : Str} : (D.str i).isN = false := id rfl
@[simp] theorem truD_bl {b : Bool} : truD (.bl b) S = .ok b S := id rfl
@[simp] theorem truD_int {i : Int} : truD (.int i) S = .ok (i != 0) S := id rfl
@[simp] theorem lenD_tup {xs : List D} : lenD [.tup xs] S = .ok (.int xs.length) S := id rfl
@[simp] theorem lenD_lst {xs : List D} : lenD [.lst xs] S = .ok (.int xs.length) S := id rfl
@[simp] theorem lenD_fls {xs : List D} : lenD [.fls xs] S = .ok (.int xs.length) S := id rfl
theorem lenD_ref {k : Nat} {xs : List D} (h : S[k]? = some (.lst xs)) : lenD [.ref k] S = .ok (.int xs.length) S := by
  simp [lenD, dcOf, sqOf, lsOf, h]
@[simp] theorem int1_int {i : Int} : int1D [.int i] S = .ok (.int i) S := id rfl
@[simp] theorem int1_bl {b : Bool} : int1D [.bl b] S = .ok (.int (if b then 1 else 0)) S := id rfl
@[simp] theorem tupD_tup {xs : List D} : tupD [.tup xs] S = .ok (.tup xs) S := id rfl
@[simp] theorem tupD_lst {xs : List D} : tupD [.lst xs] S = .ok (.tup xs) S := id rfl
theorem tupD_ref {k : Nat} {xs : List D} (h : S[k]? = some (.lst xs)) : tupD [.ref k] S = .ok (.tup xs) S := by
  simp [tupD, sqOf, lsOf, h]
@[simp] theorem ixD_tup {xs : List D} {j : Int} : ixD (.tup xs) (.int j) S = opt (atI xs j) S := id rfl
@[simp] theorem ixD_lst {xs : List D} {j : Int} : ixD (.lst xs) (.int j) S = opt (atI xs j) S := id rfl
@[simp] theorem ixD_fls {xs : List D} {j : Int} : ixD (.fls xs) (.int j) S = opt (atI xs j) S := id rfl
theorem ixD_ref {k : Nat} {xs : List D} {j : Int} (h : S[k]? = some (.lst xs)) : ixD (.ref k) (.int j) S = opt (atI xs j) S := by
  simp [ixD, dcOf, sqOf, lsOf, h]
@[simp] theorem srcT_tup {xs : List D} : srcT (.tup xs) S = .ok (.tmp xs) S := id rfl
@[simp] theorem srcL_lst {xs : List D} : srcL (.lst xs) S = .ok (.tmp xs) S := id rfl
@[simp] theorem srcL_fls {xs : List D} : srcL (.fls xs) S = .ok (.tmp xs) S := id rfl
theorem srcL_ref {k : Nat} {xs : List D} (h : S[k]? = some (.lst xs)) : srcL (.ref k) S = .ok (.st k xs) S := by
  simp [srcL, h]
theorem stD_lst {k : Nat} {xs : List D} {j : Int} {v : D} {n : Nat} (h : S[k]? = some (.lst xs)) (hn : ixN xs.length j = some n) : stD (.ref k) (.int j) v S = some (S.set k (.lst (xs.set n v))) := by
  simp [stD, h, hn]
theorem appD_ref {k : Nat} {xs : List D} {y : D} (h : S[k]? = some (.lst xs)) (hl : xs.length < sizeLine) : appD (.ref k) [y] S = .ok .non (S.set k (.lst (xs ++ [y]))) := by
  simp [appD, h, hl]
theorem isT_ref {k : Nat} {xs : List D} (h : S[k]? = some (.lst xs)) : isT "list" (.ref k) S := by
  simp [isT, lsOf, h]
end
theorem fin_frz {S S' : Sto} {d : D} (hc : Clo S S') (h : d.gnd = true) : fin .frz S d S' = .ok d (S'.take S.length) := by
  simp only [fin]
  rw [if_pos hc]
  unfold frzV
  rw [if_pos (gnd_below _ d h)]
  rfl
theorem Clo.refl {S : Sto} : Clo S S := ⟨Nat.le_refl _, fun k o hk h => .inl h⟩
theorem Clo.app {S T : Sto} : Clo S (S ++ T) := ⟨by simp, fun k o hk h => .inl (by rw [List.getElem?_append_left hk] at h; exact h)⟩
theorem fin_same {S : Sto} {d : D} (h : d.gnd = true) : fin .frz S d S = .ok d S := by
  rw [fin_frz .refl h, List.take_length]
theorem fin_app {S T : Sto} {d : D} (h : d.gnd = true) : fin .frz S d (S ++ T) = .ok d S := by
  rw [fin_frz .app h, List.take_left]
theorem Clo.set {S T : Sto} {k : Nat} {o : DO} (h : o.bel S.length = true) : Clo S (S.set k o ++ T) := ⟨by simp, fun j u hj e => by
  rw [List.getElem?_append_left (by simpa using hj)] at e
  by_cases hk : k = j
  · subst hk
    rw [List.getElem?_set_self hj] at e
    cases e
    exact .inr h
  · rw [List.getElem?_set_ne hk] at e
    exact .inl e⟩
theorem fin_set {S T : Sto} {d : D} {k : Nat} {o : DO} (h : d.gnd = true) (ho : o.bel S.length = true) : fin .frz S d (S.set k o ++ T) = .ok d (S.set k o) := by
  rw [fin_frz (.set ho) h]
  have : (S.set k o).length = S.length := by simp
  rw [← this, List.take_left]
theorem fin_set0 {S : Sto} {d : D} {k : Nat} {o : DO} (h : d.gnd = true) (ho : o.bel S.length = true) : fin .frz S d (S.set k o) = .ok d (S.set k o) := by
  have := fin_set (T := []) (S := S) (k := k) h ho
  simpa using this
@[simp] theorem retD_ret {m : Md} {S S' : Sto} {d : D} : retD m S (.ret d S') = fin m S d S' := id rfl
@[simp] theorem retD_next {m : Md} {S S' : Sto} {e : En} : retD m S (.next e S') = fin m S .non S' := id rfl
@[simp] theorem gnd_non : D.non.gnd = true := id rfl
@[simp] theorem gnd_bl {b : Bool} : (D.bl b).gnd = true := id rfl
@[simp] theorem gnd_int {b : Int} : (D.int b).gnd = true := id rfl
@[simp] theorem gnd_str {b : Str} : (D.str b).gnd = true := id rfl
@[simp] theorem gnd_tup {xs : List D} : (D.tup xs).gnd = gnds xs := id rfl
@[simp] theorem gnd_lst {xs : List D} : (D.lst xs).gnd = gnds xs := id rfl
@[simp] theorem gnd_fls {xs : List D} : (D.fls xs).gnd = gnds xs := id rfl
@[simp] theorem gnds_nil : gnds [] = true := id rfl
@[simp] theorem gnds_cons {x : D} {xs : List D} : gnds (x :: xs) = (x.gnd && gnds xs) := id rfl
theorem gnds_all : ∀ xs : List D, gnds xs = xs.all D.gnd
  | [] => rfl
  | x :: xs => by rw [gnds_cons, List.all_cons, gnds_all xs]
@[simp] theorem gnds_app {xs ys : List D} : gnds (xs ++ ys) = (gnds xs && gnds ys) := by simp [gnds_all]
theorem gnds_map {α : Type} {f : α → D} (h : ∀ x, (f x).gnd = true) (xs : List α) : gnds (xs.map f) = true := by simp [gnds_all, h]
@[simp] theorem gnds_ints (xs : List Int) : gnds (xs.map D.int) = true := gnds_map (fun _ => rfl) xs
@[simp] theorem bel_lstO {n : Nat} {xs : List D} : (DO.lst xs).bel n = belows n xs := id rfl
@[simp] theorem belows_nil {n : Nat} : belows n [] = true := id rfl
@[simp] theorem belows_cons {n : Nat} {x : D} {xs : List D} : belows n (x :: xs) = (x.bel n && belows n xs) := id rfl
@[simp] theorem bel_int {n : Nat} {i : Int} : (D.int i).bel n = true := id rfl
theorem atI_cast {α : Type} {xs : List α} {n : Nat} : atI xs (n : Int) = xs[n]? := by
  by_cases h : n < xs.length
  · rw [List.getElem?_eq_getElem h]
    exact atI_nat (List.getElem?_eq_getElem h)
  · rw [List.getElem?_eq_none (by omega)]
    unfold atI ixN
    rw [if_pos (by omega), if_neg (by omega)]
    rfl
@[simp] theorem atI_0 {α : Type} {xs : List α} : atI xs 0 = xs[0]? := atI_cast (n := 0)
@[simp] theorem atI_1 {α : Type} {xs : List α} : atI xs 1 = xs[1]? := atI_cast (n := 1)
@[simp] theorem atI_2 {α : Type} {xs : List α} : atI xs 2 = xs[2]? := atI_cast (n := 2)
@[simp] theorem atI_3 {α : Type} {xs : List α} : atI xs 3 = xs[3]? := atI_cast (n := 3)
@[simp] theorem atI_4 {α : Type} {xs : List α} : atI xs 4 = xs[4]? := atI_cast (n := 4)
@[simp] theorem atI_m1 {α : Type} {xs : List α} : atI xs (-1) = xs.getLast? := by
  rcases List.eq_nil_or_concat xs with h | ⟨ys, y, h⟩
  · subst h; rfl
  · subst h
    rw [List.concat_eq_append, atI_last]
    simp
theorem modD_pos {i j : Int} {S : Sto} (h : 0 < j) : modD (.int i) (.int j) S = .ok (.int (i % j)) S := by
  simp [fmodI, h]
  omega
theorem fdivD_pos {i j : Int} {S : Sto} (h : 0 < j) (hl : j.natAbs.log2 < 9000) : fdivD (.int i) (.int j) S = .ok (.int (i / j)) S := by
  simp [fdivI, DivOk, h, hl]
@[simp] theorem startE_a1 {n : Nat} {a : D} : startE (n + 1) [a] = some a :: List.replicate n none := id rfl
@[simp] theorem startE_a2 {n : Nat} {a b : D} : startE (n + 2) [a, b] = some a :: some b :: List.replicate n none := id rfl
@[simp] theorem startE_a3 {n : Nat} {a b c : D} : startE (n + 3) [a, b, c] = some a :: some b :: some c :: List.replicate n none := id rfl
@[simp] theorem startE_a4 {n : Nat} {a b c d : D} : startE (n + 4) [a, b, c, d] = some a :: some b :: some c :: some d :: List.replicate n none := id rfl
end Pu
set_option Elab.async false
set_option linter.all false
set_option maxRecDepth 100000
namespace Pu
open PySem PySem.Spec PyProof.Rows L2
/-- what a turn leaves -/
noncomputable def aft (dead : List Nat) (r : SRes) : SRes := match r with
  | .next e2 S2 => .next (wipeE e2 dead) S2
  | .cnt e2 S2 => .next (wipeE e2 dead) S2
  | r => r
@[simp] theorem aft_next {dead : List Nat} {e : En} {S : Sto} : aft dead (.next e S) = .next (wipeE e dead) S := id rfl
@[simp] theorem aft_cnt {dead : List Nat} {e : En} {S : Sto} : aft dead (.cnt e S) = .next (wipeE e dead) S := id rfl
@[simp] theorem aft_brk {dead : List Nat} {e : En} {S : Sto} : aft dead (.brk e S) = .brk e S := id rfl
@[simp] theorem aft_ret {dead : List Nat} {d : D} {S : Sto} : aft dead (.ret d S) = .ret d S := id rfl
/-- one turn of a for -/
noncomputable def turn (dead : List Nat) (tg : Tg) (body : Stm) (x : D) (e : En) (S : Sto) : SRes := match bindT tg x e with
  | none => .bad
  | some e1 => aft dead (body e1 S)
section
variable {dead : List Nat} {tg : Tg} {src : Src} {body : Stm} {e : En} {S : Sto}
theorem forD_nil (h : src.ok S) : forD dead tg src body [] e S = .next e S := by
  unfold forD
  rw [if_pos h]
theorem forD_cons {x : D} {xs : List D} (h : src.ok S) : forD dead tg src body (x :: xs) e S = match turn dead tg body x e S with
    | .next e2 S2 => forD dead tg src body xs e2 S2
    | .brk e2 S2 => .next e2 S2
    | .cnt e2 S2 => .cnt e2 S2
    | r => r := by
  conv => lhs; unfold forD
  rw [if_pos h]
  unfold turn
  cases bindT tg x e with
  | none => rfl
  | some e1 =>
    simp only [aft]
    cases body e1 S <;> rfl
/-- every turn goes on -/
theorem for_inv (I : Nat → En → Sto → Prop) (ok : ∀ n e S, I n e S → src.ok S) : ∀ (xs : List D) (k : Nat) (e : En) (S : Sto), I k e S →
    (∀ (n : Nat) (e : En) (S : Sto) (x : D), xs[n]? = some x → I (k + n) e S → ∃ e' S', turn dead tg body x e S = .next e' S' ∧ I (k + n + 1) e' S') →
    ∃ e' S', forD dead tg src body xs e S = .next e' S' ∧ I (k + xs.length) e' S'
  | [], k, e, S, h0, _ => ⟨e, S, forD_nil (ok _ _ _ h0), h0⟩
  | x :: xs, k, e, S, h0, h => by
    obtain ⟨e1, S1, q1, h1⟩ := h 0 e S x rfl h0
    obtain ⟨e2, S2, q2, h2⟩ := for_inv I ok xs (k + 1) e1 S1 h1 fun n e S y hy hI => by
      have := h (n + 1) e S y (by simpa using hy)
      rw [show k + (n + 1) = k + 1 + n by omega] at this
      exact this hI
    refine ⟨e2, S2, ?_, by rw [List.length_cons, show k + (xs.length + 1) = k + 1 + xs.length by omega]; exact h2⟩
    rw [forD_cons (ok _ _ _ h0), q1]
    exact q2
/-- .. from the first, over data that stand still -/
theorem for_inv0 {ys : List D} (I : Nat → En → Sto → Prop) {xs : List D} (h0 : I 0 e S) (h : ∀ (n : Nat) (e : En) (S : Sto) (x : D), xs[n]? = some x → I n e S → ∃ e' S', turn dead tg body x e S = .next e' S' ∧ I (n + 1) e' S') :
    ∃ e' S', forD dead tg (.tmp ys) body xs e S = .next e' S' ∧ I xs.length e' S' := by
  obtain ⟨e', S', q, h'⟩ := for_inv (src := .tmp ys) I (fun _ _ _ _ => trivial) xs 0 e S h0 (fun n e S x hx hI => by
    rw [Nat.zero_add] at hI ⊢
    exact h n e S x hx hI)
  rw [Nat.zero_add] at h'
  exact ⟨e', S', q, h'⟩
variable {t : Ev Bool} {f : Ev D}
/-- a comprehension that changes nothing -/
theorem lc_map {ι : Type} {ys : List D} (v : ι → D) (p : ι → Bool) (g : ι → D) : ∀ (xs : List ι), (∀ x ∈ xs, ∃ e1, bindT tg (v x) e = some e1 ∧ t e1 S = .ok (p x) S ∧ (p x = true → f e1 S = .ok (g x) S)) →
    lcD tg (.tmp ys) t f e (xs.map v) S = .ok ((xs.filter p).map g) S
  | [], _ => by
    rw [List.map_nil, lcD_nil, if_pos (show (Src.tmp ys).ok S from trivial)]
    rfl
  | x :: xs, h => by
    obtain ⟨e1, q1, q2, q3⟩ := h x List.mem_cons_self
    rw [List.map_cons, lcD_cons, if_pos (show (Src.tmp ys).ok S from trivial), q1]
    simp only [q2, nox_ok, Res.bind_ok]
    have ih := lc_map (ys := ys) v p g xs fun y hy => h y (List.mem_cons_of_mem _ hy)
    cases hp : p x with
    | true => simp only [q3 hp, if_true, nox_ok, Res.bind_ok, ih, List.filter_cons_of_pos hp, List.map_cons]
    | false =>
      rw [if_neg Bool.false_ne_true, ih, List.filter_cons_of_neg (by simp [hp])]
theorem lc_all {ι : Type} {ys : List D} (v : ι → D) (g : ι → D) (xs : List ι) (h : ∀ x ∈ xs, ∃ e1, bindT tg (v x) e = some e1 ∧ f e1 S = .ok (g x) S) : lcD tg (.tmp ys) tYesD f e (xs.map v) S = .ok (xs.map g) S := by
  have := lc_map (t := tYesD) (f := f) (ys := ys) v (fun _ => true) g xs fun x hx => by
    obtain ⟨e1, q1, q2⟩ := h x hx
    exact ⟨e1, q1, rfl, fun _ => q2⟩
  rw [this, List.filter_eq_self.mpr fun _ _ => rfl]
/-- a comprehension that changes the store -/
theorem lc_inv {ys : List D} (I : Nat → Sto → List D → Prop) : ∀ (xs : List D) (k : Nat) (S : Sto) (acc : List D), I k S acc →
    (∀ (n : Nat) (S : Sto) (acc : List D) (x : D), xs[n]? = some x → I (k + n) S acc → ∃ e1 d S', bindT tg x e = some e1 ∧ f e1 S = .ok d S' ∧ I (k + n + 1) S' (acc ++ [d])) →
    ∃ ds S', lcD tg (.tmp ys) tYesD f e xs S = .ok ds S' ∧ I (k + xs.length) S' (acc ++ ds)
  | [], k, S, acc, h0, _ => ⟨[], S, by rw [lcD_nil, if_pos (show (Src.tmp ys).ok S from trivial)], by simpa using h0⟩
  | x :: xs, k, S, acc, h0, h => by
    obtain ⟨e1, d, S1, q1, q2, h1⟩ := h 0 S acc x rfl h0
    obtain ⟨ds, S2, q3, h2⟩ := lc_inv (ys := ys) I xs (k + 1) S1 (acc ++ [d]) h1 fun n S acc y hy hI => by
      have := h (n + 1) S acc y (by simpa using hy)
      rw [show k + (n + 1) = k + 1 + n by omega] at this
      exact this hI
    refine ⟨d :: ds, S2, ?_, by rw [List.length_cons, show k + (xs.length + 1) = k + 1 + xs.length by omega]; simpa using h2⟩
    rw [lcD_cons, if_pos (show (Src.tmp ys).ok S from trivial), q1]
    simp only [ap_yes, nox_ok, Res.bind_ok, if_true, q2, q3]
end
@[simp] theorem rngD_len {lo hi : Int} : (rngD lo hi).length = (hi - lo).toNat := by simp [rngD]
theorem rngD_get {lo hi : Int} {n : Nat} {x : D} (h : (rngD lo hi)[n]? = some x) : x = .int (lo + n) ∧ lo + n < hi := by
  unfold rngD at h
  have hn : n < (hi - lo).toNat := by
    have := (List.getElem?_eq_some_iff.mp h).1
    simpa using this
  rw [List.getElem?_map, List.getElem?_range hn] at h
  exact ⟨(Option.some.inj h).symm, by omega⟩
@[simp] theorem srcR1_ap {j : Int} {S : Sto} : srcR1 [.int j] S = if Rg62 j then .ok (.tmp (rngD 0 j)) S else .bad := id rfl
@[simp] theorem srcR2_ap {i j : Int} {S : Sto} : srcR2 [.int i, .int j] S = if Rg62 i ∧ Rg62 j then .ok (.tmp (rngD i j)) S else .bad := id rfl
theorem FitMul.left {i j : Int} (h1 : -18446744073709551616 < i) (h2 : i < 18446744073709551616) : FitMul i j := .inl ⟨by omega, by omega⟩
theorem FitMul.right {i j : Int} (h1 : -18446744073709551616 < j) (h2 : j < 18446744073709551616) : FitMul i j := .inr (.inl ⟨by omega, by omega⟩)
theorem bits_le {i : Int} {b : Nat} (h : i.natAbs < 2 ^ b) : Builtin.Int.intBits i ≤ b := by
  unfold Builtin.Int.intBits
  split
  · omega
  · rename_i hz
    have hn : i.natAbs ≠ 0 := fun e => hz (by have : i = 0 := Int.natAbs_eq_zero.mp e; subst this; rfl)
    have := (Nat.log2_lt hn).mpr h
    omega
theorem PowOk.of {i j : Int} {b : Nat} (h : i.natAbs < 2 ^ b) (h0 : 0 ≤ j) (hb : (b : Int) * j ≤ 134217728) : PowOk i j := by
  refine ⟨h0, ?_⟩
  have h1 := bits_le h
  have : (Builtin.Int.intBits i : Int) * j ≤ (b : Int) * j := Int.mul_le_mul_of_nonneg_right (by omega) h0
  omega
theorem pw18 : PowOk 10 18 := by decide
theorem pw57 : PowOk 10 57 := by decide
theorem pw59 : PowOk 10 59 := by decide
theorem powD_ok {i j : Int} {S : Sto} (h : PowOk i j) : powD (.int i) (.int j) S = .ok (.int (i ^ j.toNat)) S := if_pos h
theorem mulD_ok {i j : Int} {S : Sto} (h : FitMul i j) : mulD (.int i) (.int j) S = .ok (.int (i * j)) S := if_pos h
theorem p10_18 {S : Sto} : powD (.int 10) (.int 18) S = .ok (.int 1000000000000000000) S := powD_ok pw18
theorem p10_57 {S : Sto} : powD (.int 10) (.int 57) S = .ok (.int (10 ^ 57)) S := powD_ok pw57
theorem p10_59 {S : Sto} : powD (.int 10) (.int 59) S = .ok (.int (10 ^ 59)) S := powD_ok pw59
theorem mul_lt {i j : Int} {a b : Int} (h1 : 0 ≤ i) (h2 : i < a) (h3 : 0 ≤ j) (h4 : j < b) : i * j < a * b := by
  have h5 : i * j ≤ i * b := Int.mul_le_mul_of_nonneg_left (by omega) h1
  have h6 : i * b < a * b := Int.mul_lt_mul_of_pos_right h2 (by omega)
  omega
end Pu
set_option Elab.async false
set_option linter.all false
set_option maxRecDepth 100000
namespace Pu
open PySem PySem.Spec PyProof.Rows L2
/-- data of one kind: f tells them, n bounds their depth -/
structure Rp {α : Type} (f : α → D) (n : Nat) : Prop where
  eqv : ∀ x y, PyData.eqv (f x).py (f y).py = true ↔ x = y
  lay : ∀ x, (f x).py.canLay0 = true
  dep : ∀ x, (f x).py.depth ≤ n
  flat : ∀ x S, pyOf S (f x) = (f x).py
  gnd : ∀ x, (f x).gnd = true
theorem Rp.int : Rp D.int 0 := ⟨fun x y => by simp [D.py, PyData.eqv], fun _ => rfl, fun _ => Nat.le_refl _, fun _ _ => rfl, fun _ => rfl⟩
theorem Rp.bl : Rp D.bl 0 := ⟨fun x y => by cases x <;> cases y <;> decide, fun _ => rfl, fun _ => Nat.le_refl _, fun _ _ => rfl, fun _ => rfl⟩
/-- a row of two -/
noncomputable def prD {α β : Type} (f : α → D) (g : β → D) (p : α × β) : D := .tup [f p.1, g p.2]
noncomputable def tpD {α : Type} (f : α → D) (xs : List α) : D := .tup (xs.map f)
noncomputable def lsD {α : Type} (f : α → D) (xs : List α) : D := .lst (xs.map f)
theorem Rp.pr {α β : Type} {f : α → D} {g : β → D} {n m : Nat} (hf : Rp f n) (hg : Rp g m) : Rp (prD f g) (max n m + 1) := ⟨fun x y => by
    obtain ⟨a, b⟩ := x
    obtain ⟨c, d⟩ := y
    simp [prD, D.py, pys, PyData.eqv, PyData.eqvAll, hf.eqv, hg.eqv], fun x => by
    simp [prD, D.py, pys, PyData.canLay0, PyData.canLayAll0, hf.lay, hg.lay], fun x => by
    have h1 := hf.dep x.1
    have h2 := hg.dep x.2
    simp only [prD, D.py, pys, PyData.depth, PyData.depthAll]
    omega, fun _ _ => rfl, fun x => by
    simp [prD, hf.gnd, hg.gnd]⟩
theorem eqvs {α : Type} {f : α → D} {n : Nat} (hf : Rp f n) : ∀ xs ys : List α, PyData.eqvAll (pys (xs.map f)) (pys (ys.map f)) = true ↔ xs = ys
  | [], [] => by simp [pys, PyData.eqvAll]
  | [], _ :: _ => by simp [pys, PyData.eqvAll]
  | _ :: _, [] => by simp [pys, PyData.eqvAll]
  | x :: xs, y :: ys => by
    simp [pys, PyData.eqvAll, hf.eqv, eqvs hf xs ys]
theorem lays {α : Type} {f : α → D} {n : Nat} (hf : Rp f n) : ∀ xs : List α, PyData.canLayAll0 (pys (xs.map f)) = true
  | [] => rfl
  | x :: xs => by simp [pys, PyData.canLayAll0, hf.lay, lays hf xs]
theorem deps {α : Type} {f : α → D} {n : Nat} (hf : Rp f n) : ∀ xs : List α, PyData.depthAll (pys (xs.map f)) ≤ n
  | [] => Nat.zero_le _
  | x :: xs => by
    have h1 := hf.dep x
    have h2 := deps hf xs
    simp only [List.map_cons, pys, PyData.depthAll]
    omega
theorem Rp.tp {α : Type} {f : α → D} {n : Nat} (hf : Rp f n) : Rp (tpD f) (n + 1) := ⟨fun x y => by
    simp only [tpD, D.py, PyData.eqv]
    exact eqvs hf x y, fun x => by
    simp only [tpD, D.py, PyData.canLay0]
    exact lays hf x, fun x => by
    have := deps hf x
    simp only [tpD, D.py, PyData.depth]
    omega, fun _ _ => rfl, fun x => by
    simp [tpD, gnds_map hf.gnd]⟩
theorem Rp.ls {α : Type} {f : α → D} {n : Nat} (hf : Rp f n) : Rp (lsD f) (n + 1) := ⟨fun x y => by
    simp only [lsD, D.py, PyData.eqv]
    exact eqvs hf x y, fun x => by
    simp only [lsD, D.py, PyData.canLay0]
    exact lays hf x, fun x => by
    have := deps hf x
    simp only [lsD, D.py, PyData.depth]
    omega, fun _ _ => rfl, fun x => by
    simp [lsD, gnds_map hf.gnd]⟩
theorem Rp.shp {α : Type} {f : α → D} {n : Nat} (hf : Rp f n) (h : n ≤ 64) (x : α) (S : Sto) : Pu.shp S (f x) = true := by
  have := hf.dep x
  unfold Pu.shp SeqAt.shaped
  rw [hf.flat, hf.lay]
  simp
  omega
theorem Rp.eqB {α : Type} [DecidableEq α] {f : α → D} {n : Nat} (hf : Rp f n) (x y : α) (S : Sto) : Pu.eqB S (f x) (f y) = decide (x = y) := by
  unfold Pu.eqB
  rw [hf.flat, hf.flat]
  rw [Bool.eq_iff_iff, hf.eqv]
  simp
theorem Rp.eq {α : Type} [DecidableEq α] {f : α → D} {n : Nat} (hf : Rp f n) (h : n ≤ 64) (x y : α) (S : Sto) : eqD false (f x) (f y) S = .ok (.bl (decide (x = y))) S := by
  simp [eqD, hf.shp h, hf.eqB]
theorem Rp.ne {α : Type} [DecidableEq α] {f : α → D} {n : Nat} (hf : Rp f n) (h : n ≤ 64) (x y : α) (S : Sto) : eqD true (f x) (f y) S = .ok (.bl (!decide (x = y))) S := by
  simp [eqD, hf.shp h, hf.eqB]
@[simp] theorem eqD_int {i j : Int} {S : Sto} : eqD false (.int i) (.int j) S = .ok (.bl (decide (i = j))) S := Rp.int.eq (by decide) i j S
@[simp] theorem neD_int {i j : Int} {S : Sto} : eqD true (.int i) (.int j) S = .ok (.bl (!decide (i = j))) S := Rp.int.ne (by decide) i j S
/-- a list of the store beside data -/
theorem pyOf_ref {S : Sto} {k : Nat} {xs : List D} (h : S[k]? = some (.lst xs)) : pyOf S (.ref k) = (D.lst xs).py := by
  simp [pyOf, h, D.py]
theorem neR_nil {α : Type} {f : α → D} {n : Nat} (hf : Rp f n) (hn : n < 64) {S : Sto} {k : Nat} {xs : List α} (h : S[k]? = some (.lst (xs.map f))) : eqD true (.ref k) (.lst []) S = .ok (.bl (!xs.isEmpty)) S := by
  have h1 : shp S (.ref k) = true := by
    have := hf.ls.shp (by omega) xs S
    unfold shp at this ⊢
    rw [pyOf_ref h]
    rw [hf.ls.flat] at this
    exact this
  have h2 : shp S (.lst []) = true := hf.ls.shp (by omega) [] S
  have h3 : eqB S (.ref k) (.lst []) = xs.isEmpty := by
    unfold eqB
    rw [pyOf_ref h, show pyOf S (.lst []) = (lsD f []).py from rfl]
    rw [Bool.eq_iff_iff, show D.lst (xs.map f) = lsD f xs from rfl, hf.ls.eqv]
    simp
  simp [eqD, h1, h2, h3]
theorem frz_ref {S S' : Sto} {k : Nat} {xs : List D} (hc : Clo S S') (hk : S.length ≤ k) (h : S'[k]? = some (.lst xs)) (hx : gnds xs = true) : fin .frz S (.ref k) S' = .ok (.lst xs) (S'.take S.length) := by
  have h1 : allSome (xs.map (frzV S.length S' 5)) = some xs := by
    have : ∀ ys : List D, gnds ys = true → allSome (ys.map (frzV S.length S' 5)) = some ys := by
      intro ys
      induction ys with
      | nil => intro _; rfl
      | cons y ys ih =>
        intro hy
        have h' : y.gnd = true ∧ gnds ys = true := by simpa using hy
        have e : frzV S.length S' 5 y = some y := by
          unfold frzV
          rw [if_pos (gnd_below _ y h'.1)]
        simp only [List.map_cons, e, allSome, ih h'.2, Option.map_some]
    exact this xs hx
  simp only [fin]
  rw [if_pos hc]
  unfold frzV
  rw [if_neg (by simp [D.bel]; omega)]
  simp only [h, h1, Option.map_some]
  rfl
noncomputable def Dg (S : Sto) (k : Nat) (x : Int) : Sto := S.set k (.lst [.int x])
section
variable {S T : Sto} {k j : Nat} {x y : Int}
@[simp] theorem Dg_len : (Dg S k x).length = S.length := by simp [Dg]
theorem Dg_at (h : k < S.length) : (Dg S k x)[k]? = some (.lst [.int x]) := by simp [Dg, h]
theorem Dg_ne (h : j ≠ k) : (Dg S k x)[j]? = S[j]? := by simp [Dg, Ne.symm h]
theorem Dg_set : (Dg S k x).set k (.lst [.int y]) = Dg S k y := by simp [Dg]
theorem Dg_app (h : k < S.length) : Dg S k x ++ T = Dg (S ++ T) k x := by simp [Dg, List.set_append, h]
theorem Dg_comm {o : DO} (h : j ≠ k) : (Dg S k x).set j o = Dg (S.set j o) k x := by
  unfold Dg
  rw [List.set_comm _ _ (Ne.symm h)]
theorem Dg_of (h : S[k]? = some (.lst [.int x])) : Dg S k x = S := by
  unfold Dg
  apply List.ext_getElem?
  intro i
  by_cases hi : k = i
  · subst hi
    rw [List.getElem?_set_self (List.getElem?_eq_some_iff.mp h).1, h]
  · rw [List.getElem?_set_ne hi]
/-- what a def hands back that drew and made one list -/
theorem Dg_clo (h : k < S.length) : Clo (Dg S k x) (Dg S k y ++ T) := by
  have := Clo.set (S := Dg S k x) (T := T) (k := k) (o := .lst [.int y]) (by simp)
  rw [Dg_set] at this
  exact this
theorem fin_dg {d : D} (h : k < S.length) (hd : d.gnd = true) : fin .frz (Dg S k x) d (Dg S k y ++ T) = .ok d (Dg S k y) := by
  rw [fin_frz (Dg_clo h) hd]
  have : (Dg S k x).length = (Dg S k y).length := by simp
  rw [this, List.take_left]
theorem fin_dg0 {d : D} (h : k < S.length) (hd : d.gnd = true) : fin .frz (Dg S k x) d (Dg S k y) = .ok d (Dg S k y) := by
  have := fin_dg (x := x) (y := y) (T := []) h hd
  simpa using this
theorem fin_dgR {xs : List D} {n : Nat} (h : k < S.length) (hn : n = S.length) (hx : gnds xs = true) : fin .frz (Dg S k x) (.ref n) (Dg (S ++ [.lst xs]) k y) = .ok (.lst xs) (Dg S k y) := by
  subst hn
  rw [← Dg_app h, frz_ref (xs := xs) (Dg_clo h) (by simp) (by simp) hx]
  have : (Dg S k x).length = (Dg S k y).length := by simp
  rw [this, List.take_left]
end
theorem sz {n : Nat} (h : n < 1048576) : n < sizeLine := Nat.lt_of_lt_of_le h (by unfold sizeLine; decide +kernel)
theorem set_last {S : Sto} {o p : DO} : (S ++ [o]).set S.length p = S ++ [p] := by simp
theorem last_at {S : Sto} {o : DO} : (S ++ [o])[S.length]? = some o := by simp
theorem Dg_last {S : Sto} {o : DO} {k : Nat} {z : Int} (h : k < S.length) : (Dg (S ++ [o]) k z)[S.length]? = some o := by
  rw [Dg_ne (by omega), last_at]
theorem rg {n : Nat} (h : n < 1048576) : Rg62 (n : Int) := by
  unfold Rg62
  omega
theorem forR1 {dead : List Nat} {tg : Tg} {f : Ev D} {a : Stm} {e : En} {S : Sto} {n : Nat} (hf : f e S = .ok (.int n) S) (h : n < 1048576) : sFor dead tg (iR1 f) a e S = forD dead tg (.tmp (rngD 0 n)) a (rngD 0 n) e S := by
  rw [ap_For, ap_iR1, hf, Res.bind_ok, srcR1_ap, if_pos (rg h), Res.stm_ok]
  rfl
end Pu
set_option Elab.async false
set_option linter.all false
set_option maxRecDepth 100000
namespace Pu
open PySem PySem.Spec PyProof.Rows L2
theorem list_set0 {α : Type} {x y : α} {xs : List α} : (x :: xs).set 0 y = y :: xs := rfl
theorem list_setS {α : Type} {x y : α} {xs : List α} {n : Nat} : (x :: xs).set (n + 1) y = x :: xs.set n y := rfl
theorem rep_0 {α : Type} {x : α} : List.replicate 0 x = [] := rfl
theorem rep_S {α : Type} {x : α} {n : Nat} : List.replicate (n + 1) x = x :: List.replicate n x := rfl
theorem obs {α β : Type} {a : α} {f : α → Option β} : (some a).bind f = f a := rfl
theorem iftr {α : Type} {a b : α} : (if (true = true) then a else b) = a := rfl
theorem iffa {α : Type} {a b : α} : (if (false = true) then a else b) = b := rfl
theorem ifT {α : Type} {a b : α} : (if True then a else b) = a := if_pos trivial
theorem ifF {α : Type} {a b : α} : (if False then a else b) = b := if_neg not_false
noncomputable def goA := And.intro @ap_C (And.intro @ap_Var0 (And.intro @ap_VarS (And.intro @ap_1 (And.intro @ap_2 (And.intro @ap_TB (And.intro @ap_Ch (And.intro @ap_tAnd (And.intro @ap_tOr (And.intro @ap_tNot (And.intro @ap_eAnd (And.intro @ap_eOr (And.intro @ap_eNot (And.intro @ap_eIf (And.intro @ap_Tr (And.intro @ap_Args0 (And.intro @ap_Args (And.intro @ap_Tup (And.intro @ap_Call (And.intro @ap_Fn (And.intro @ap_nLst (And.intro @ap_nDct0 (And.intro @ap_Ano (And.intro @ap_New (And.intro @ap_M (And.intro @ap_Sl (And.intro @ap_pN (And.intro @ap_pE @ap_yes)))))))))))))))))))))))))))
noncomputable def goB := And.intro @ap_Set (And.intro @ap_Ret (And.intro @ap_Expr (And.intro @ap_Next (And.intro @ap_Brk (And.intro @ap_Seq (And.intro @ap_If (And.intro @ap_St (And.intro @ap_Asg (And.intro @ap_Aug (And.intro @ap_Fgt (And.intro @fgt_next (And.intro @fgt_ret (And.intro @fgt_brk (And.intro @wipe_nil (And.intro @wipe_cons (And.intro @bindT_nm (And.intro @bindT_tp (And.intro @bindT_tpi (And.intro @bindTs_nil @bindTs_cons)))))))))))))))))))
noncomputable def goC := And.intro @Res.bind_ok (And.intro @Res.stm_ok (And.intro @SRes.seq_next (And.intro @SRes.seq_ret (And.intro @SRes.seq_brk (And.intro @opt_some (And.intro @toB_bl (And.intro @aft_next (And.intro @aft_cnt (And.intro @aft_brk (And.intro @aft_ret (And.intro @retD_ret (And.intro @retD_next (And.intro @anoD_lst (And.intro @anoD_dct (And.intro @truD_bl (And.intro @truD_int (And.intro @list_set0 (And.intro @list_setS (And.intro @rep_0 (And.intro @rep_S (And.intro @obs (And.intro @iftr (And.intro @iffa (And.intro @ifT @ifF))))))))))))))))))))))))
noncomputable def goS := And.intro goA (And.intro goB goC)
section
variable {a b : Int} {S : Sto}
theorem subD_i : subD (.int a) (.int b) S = .ok (.int (a - b)) S := rfl
theorem ltD_i : ltD (.int a) (.int b) S = .ok (.bl (decide (a < b))) S := rfl
theorem leD_i : leD (.int a) (.int b) S = .ok (.bl (decide (a ≤ b))) S := rfl
theorem gtD_i : gtD (.int a) (.int b) S = .ok (.bl (decide (b < a))) S := rfl
theorem geD_i : geD (.int a) (.int b) S = .ok (.bl (decide (b ≤ a))) S := rfl
end
/-- what the numbers do -/
noncomputable def goI := And.intro @addD_int (And.intro @subD_i (And.intro @ltD_i (And.intro @leD_i (And.intro @gtD_i (And.intro @geD_i (And.intro @negD_int (And.intro @eqD_int (And.intro @neD_int (And.intro @int1_int (And.intro @int1_bl (And.intro @lenD_tup (And.intro @lenD_lst (And.intro @lenD_fls (And.intro @ixD_tup (And.intro @ixD_lst @ixD_fls)))))))))))))))
/-- the start -/
noncomputable def go0 := And.intro @startE_a1 (And.intro @startE_a2 (And.intro @startE_a3 @startE_a4))
end Pu
set_option Elab.async false
set_option linter.all false
set_option maxRecDepth 100000
namespace Pu
open PySem PySem.Spec PyProof.Rows L2
section
variable {P : Program} {w : World} {A : Around} {E : Value → Shared → Prop} {s : Shared}
noncomputable abbrev fob (w : World) : Obj := { cls := .type "set", dict := none, data := .set #[] 0 (.fresh 0 0 (!w.params.followText "set-order")) }
noncomputable abbrev lit (l : Addr) : Obj := { cls := .type "list_iterator", data := .fields #[.ref l, .int 0 0] }
set_option maxHeartbeats 3200000 in
theorem set_of_ints {l : Addr} {xs : Array Value} (ns : List Int) {R : Value → Shared → Prop} (h0 : A.handled = none) (hx : s.heap.IsList l xs) (hi : IntsAre xs.toList ns) (hn : ns.length + 1 < scanBound)
    (q : ∀ (g : Heap) (t c : Nat), SetR w g s.heap.objs.size (fun j => decide (j ∈ ns)) c → c ≤ ns.length → (∀ b o, s.heap.get? b = some o → g.get? b = some o) → R (.ref s.heap.objs.size) { s with heap := g, toks := t }) :
    wpAny (model P w) A (call (.type "set") [.ref l]) R E s := by
  have hz : xs.size = ns.length := by have := hi.length; rwa [Array.length_toList] at this
  obtain ⟨c, tl, hm⟩ := F.called_set.mro
  have r1 := F.called_set.made
  have r2 := F.called_set.sub
  refine wpAny_call (codeAny_of_tree (by
    show wpAny _ _ (callAny (.type "set") _) _ _ _
    refine wpAny_pure ⟨Code.quiet_builtin _ (by decide +kernel), codeAny_builtin F.entry_type_call ?_⟩
    rw [Around.under_plain (weight_type_call_type "set" [.ref l] []) rfl]
    have r3 := F.called_set.notType
    have r4 := F.called_set.canCreate
    have r5 := F.typeCall_set_1 (.ref l)
    repeat (any_goals (first | assumption | wp_step))
    refine codeAny_mono (code_set_led1 (.ref l) (E := E) (Q₁ := fun v s1 => v = .ref s.heap.objs.size ∧ s1 = { s with heap := s.heap.push (fob w) }) ⟨rfl, rfl⟩) fun r s1 hr => ?_
    cases r with
    | error e => exact hr
    | ok fl =>
      cases fl with
      | ret v =>
        obtain ⟨rfl, rfl⟩ := hr
        have p1 : (s.heap.push (fob w)).get? s.heap.objs.size = some (fob w) := Heap.get?_push_size _ rfl
        have p2 : Shared.TypeIs { s with heap := s.heap.push (fob w) } (.ref s.heap.objs.size) "set" := ⟨_, p1, rfl⟩
        have r6 := F.called_set.init.lookup
        have r7 := F.called_set.init.bind (.ref s.heap.objs.size)
        repeat (any_goals (first | assumption | wp_step))
        refine codeAny_mono (codeAny_call_builtin (R := wants (fun r s2 => r = .none ∧ ∃ g t c, s2 = { s with heap := g, toks := t } ∧ SetR w g s.heap.objs.size (fun j => decide (j ∈ ns)) c ∧ c ≤ ns.length ∧ (∀ b o, s.heap.get? b = some o → g.get? b = some o)) E) F.called_set.init.plain F.entry_set_init (check_set_init_1 p2 ?_)) fun r2 s2 hr2 => ?_
        · obtain ⟨⟨oc, od, oa, os⟩, ho, hc, n, hd⟩ := hx
          simp only at hc hd
          subst hc hd
          have p3 : (s.heap.push (fob w)).get? l = some { cls := .type "list", dict := od, data := .seq xs n, slots := os } := Heap.get?_push_of_some _ ho
          have r8 := F.sub_list_set
          have r9 := F.sub_list_frozenset
          have ne : (Value.type "list" == Value.type "dict") = false := by decide
          have p4 : (s.heap.push (fob w)).IsList l xs := ⟨_, p3, rfl, n, rfl⟩
          unfold Builtin.«set.__init__» noKeywords Builtin.Frozenset.updateFrom
          generalize hp : pyIter = pp
          wp_walk
          subst hp
          refine wpAny_pyIter_list p4 (wpAny_bind (wpAny_runValue ?_))
          have ls : l < s.heap.objs.size := Heap.lt_size ho
          have h3 : A.in1.in1.in1.handled = none := by simp [h0]
          have zz : (s.heap.push (fob w)).objs.size = s.heap.objs.size + 1 := Heap.size_push ..
          have n1 : l ≠ (s.heap.push (fob w)).objs.size := by rw [zz]; exact Nat.ne_of_lt (Nat.lt_succ_of_lt ls)
          have n2 : s.heap.objs.size ∉ [(s.heap.push (fob w)).objs.size, l] := by
            rw [zz, List.mem_cons, List.mem_singleton, not_or]
            exact ⟨Nat.ne_of_lt (Nat.lt_succ_self _), Nat.ne_of_gt ls⟩
          have vl : ∀ (i : Nat) (v : Value), xs[i]? = some v → ∃ k t, ns[i]? = some k ∧ v = .int k t := fun i v hv => by
            have hi' : i < ns.length := by rw [← hz]; exact (Array.getElem?_eq_some_iff.mp hv).1
            obtain ⟨t, e⟩ := IntsAre.int_at hi i v (by rw [Array.getElem?_toList]; exact hv)
            refine ⟨ns[i], t, List.getElem?_eq_getElem hi', ?_⟩
            rw [e, List.getD_eq_getElem?_getD, List.getElem?_eq_getElem hi'] <;> rfl
          refine set_update_ints ((Walks.list h3 _ l n1 xs).toS) s.heap.objs.size n2 ns hz hn vl (xs.size - 0) 0 _ (by omega) (Nat.zero_le _) ⟨⟨_, Heap.get?_push_size _ rfl, rfl, rfl⟩, p4.push _⟩ ?sa ?sb
          case sa => exact ⟨0, Nat.le_refl 0, setR_new_at (show ((s.heap.push (fob w)).push (lit l)).get? s.heap.objs.size = some (fob w) from Heap.get?_push_of_some _ p1)⟩
          case sb =>
            intro s' c' hv hc' hS
            obtain ⟨g, g2, d', t', o'⟩ := s'
            have e1 : g2 = s.gens := hv.gens
            have e2 : d' = s.drawn := hv.drawn
            have e3 : o' = s.os := hv.os
            subst e1 e2 e3
            show wpAny _ _ _ _ _ _
            refine wpAny_pure ?_
            show wpAny _ _ (ret Value.none) _ _ _
            rw [hz] at hc'
            refine wpAny_pure ⟨rfl, g, t', c', rfl, hS, hc', fun b o e => hv.heap b o ?_ (Heap.get?_push_of_some _ (Heap.get?_push_of_some _ e))⟩
            have hb := Heap.lt_size e
            rw [zz, List.mem_cons, List.mem_singleton, not_or]
            exact ⟨Nat.ne_of_lt hb, Nat.ne_of_lt (Nat.lt_succ_of_lt hb)⟩
        · cases r2 with
          | error e => exact hr2
          | ok f2 =>
            cases f2 with
            | ret v =>
              obtain ⟨rfl, g, t, c, rfl, hS, hc, hk⟩ := hr2
              repeat (any_goals (first | assumption | wp_step))
              exact q g t c hS hc hk
            | _ => exact hr2.elim
      | _ => exact hr.elim))
end
end Pu
set_option Elab.async false
set_option linter.all false
set_option maxRecDepth 100000
namespace L2
open PySem PySem.Spec PyProof.Rows
section
variable {P : Program} {w : World} {A : Around} {E : Value → Shared → Prop} {s : Shared}
theorem sorted_setX {a : Addr} {S : Int → Bool} {n : Nat} {Q : Value → Shared → Prop} (R : SetR w s.heap a S n) (h0 : A.handled = none)
    (q : ∀ (s2 : Shared) (p : Addr) (out : List Value) (c : Nat) (ns : List Int), (∀ b o, s.heap.get? b = some o → s2.heap.get? b = some o) → s2.gens = s.gens → s2.os = s.os → s.heap.objs.size ≤ p →
      s2.heap.get? p = some (seqObj "list" out.toArray c) → IntsAre out ns → ns.Pairwise (· < ·) → (∀ k, k ∈ ns ↔ S k = true) → ns.length = n → n < 4096 → Q (.ref p) s2) : wpAny (model P w) A (call (.builtin "sorted") [.ref a]) Q E s := by
  obtain ⟨ob, es, ep, tb, r1, r2, r3, g, nd, hm, r4, r5, hn, r6, r7⟩ := R
  have n4 : n < 4096 := by
    have : es.size < 4096 := r4
    omega
  refine Calls.call_function_entry kind_sorted plain_sorted entry_sorted (args_sorted1 (.ref a)) (by
    unfold Builtin.«sorted»
    refine wpAny_bind (m := checkCount "sorted" 1 1 _) (wpAny_pure (wpAny_bind (collect_set (A := A.in1) h0 ⟨ob, r1, r2.1, r3⟩ r5 r4 r6 r7 fun s1 vs k1 hz g1 o1 pm => ?_)))
    have vl : vs.length = n := by rw [pm.length_eq, List.length_map, Array.length_toList, hn]
    have vI : IntsAre vs (vs.map Builtin.Re.reRawOf) := ints_of vs fun v hv => by
      obtain ⟨e, he, z⟩ := List.mem_map.mp (pm.mem_iff.mp hv)
      obtain ⟨k, tk, h1, _⟩ := g e he
      exact ⟨k, tk, z ▸ h1⟩
    have pk : (vs.map Builtin.Re.reRawOf).Perm (es.toList.map keyOf) := by
      have z := pm.map Builtin.Re.reRawOf
      rwa [List.map_map] at z
    have vz : vs.length ≤ sizeLine := by rw [vl, sizeLine_eq]; omega
    refine wpAny_bind (wpAny_newList ?_ vz)
    have at1 : (s1.heap.push (seqObj "list" vs.toArray 0)).get? s1.heap.objs.size = some (seqObj "list" vs.toArray 0) := Heap.get?_push_size _ rfl
    refine wpAny_bind (wpAny_holding (wpAny_call_entry slot_list_sort ⟨_, at1, rfl⟩ entry_list_sort (SrtO.list_sort_ord SrtO.swo_int at1 vz (fun h2 => SrtO.ints_sortable vI h2) fun out hs hb => ⟨_, rfl, ?_⟩) (args_list_sort _)))
    obtain ⟨z1, z2, z3⟩ := SrtO.ints_out vI hs hb
    obtain ⟨c, hc⟩ : ∃ n, (sortedHeap (s1.heap.push (seqObj "list" vs.toArray 0)) s1.heap.objs.size vs out.toArray).get? s1.heap.objs.size = some (seqObj "list" out.toArray n) := sortedHeap_at at1
    have pn : (out.map SrtO.iv).Perm (es.toList.map keyOf) := z2.trans pk
    refine wpAny_pure ⟨_, rfl, q _ s1.heap.objs.size out c (out.map SrtO.iv) (fun b u e => ?_) g1 o1 hz hc z1 (lt_of_le_nodup _ z3 (pn.nodup_iff.mpr nd)) (fun k => by rw [pn.mem_iff, ← hm k]) (by rw [pn.length_eq, List.length_map, Array.length_toList, hn]) n4⟩
    have q1 := k1 b u e
    have lt := Heap.lt_size q1
    rw [show (sortedHeap (s1.heap.push (seqObj "list" vs.toArray 0)) s1.heap.objs.size vs out.toArray).get? b = (s1.heap.push (seqObj "list" vs.toArray 0)).get? b from sortedHeap_old (Nat.ne_of_lt lt) (by rw [size_push']; exact Nat.lt_succ_of_lt lt)]
    exact Heap.get?_push_of_some _ q1)
end
/-- sorted(found) -/
noncomputable def rSortedSetX (w : World) : List V → Hp → VK → Prop := fun vs H Q => ∃ (a : Addr) (S : Int → Bool) (n : Nat), vs = [V.ref a] ∧ H a = some (SetO w a S n) ∧
  ∀ (ns : List Int) (p : Addr), ns.Pairwise (· < ·) → (∀ k : Int, k ∈ ns ↔ S k = true) → ns.length = n → H p = none → Q (.ref p) (upd H p (.lst (ns.map V.int)))
theorem cr_sortedSetX {X : Cx} (hc : X.calm = true) : CallR X (.builtin "sorted") (rSortedSetX X.w) := by
  intro pins s σ H vs us Q I r h
  obtain ⟨a, S, n, rfl, ha, q⟩ := h
  rw [Vals.ref1 r]
  refine sorted_setX (setO_get I ha) (I.ok.hd hc) fun s2 p out c ns k g o hp hg hi hs hm hl h4 => ?_
  have le : (ns.map V.int).length ≤ sizeLine := by rw [List.length_map, hl, sizeLine_eq]; omega
  have hn : H p = none := I.hok.fresh hp
  obtain ⟨hp2, gn, dr, tk, os⟩ := s2
  obtain ⟨hp1, gn1, dr1, tk1, os1⟩ := s
  simp only at g o k hp hg
  subst g o
  refine ⟨.ref p, upd H p (.lst (ns.map V.int)), ?_, rfl, q ns p hs hm hl hn⟩
  exact I.call (ch := []) (Un.laid k hp hn) (I.hok.laid k hp ⟨le, out, c, vals_of_ints hi, hg⟩) (by exact I.bare) fun _ z => nomatch z
/-- sorted(d), keys that are ints -/
noncomputable def rSortedDX (K : PySem.W.Frag) : List V → Hp → VK → Prop := fun xs H Q => ∃ (a : Addr) (kvs : List (Key × V)) (ks : List Int), xs = [.ref a] ∧ Rd H a (.dK kvs) ∧ kvs.map (·.1) = ks.map Sum.inl ∧ ks.length < 100000 ∧
  ∀ (ys : List Int) (p : Addr), ys.Perm ks → ys.Pairwise (· ≤ ·) → H p = none → Q (.ref p) (upd H p (.lst (ys.map V.int)))
theorem call_sortedDX {X : Cx} (hcalm : X.calm = true) : CallR X (.builtin "sorted") (rSortedDX X.K) := by
  intro pins s σ H xs us Q I r q
  obtain ⟨a, kvs, ks, rfl, hd, hks, h64, q⟩ := q
  rw [Vals.ref1 r]
  obtain ⟨z, lo, vs, rel, dd⟩ := dk_rd I.hok hd
  obtain ⟨ep, hat⟩ := dd.dictAt
  have keys2 : vs.map (·.1) = ks.map Sum.inl := rel.keys.symm.trans hks
  have hl : vs.length = ks.length := by simpa using congrArg List.length keys2
  have h16 : vs.length ≤ sizeLine := by rw [hl, sizeLine_eq]; omega
  refine Calls.call_function_entry kind_sorted plain_sorted entry_sorted (args_sorted1 (.ref a)) (by
    unfold Builtin.«sorted»
    refine wpAny_bind (m := checkCount "sorted" 1 1 _) (wpAny_pure (wpAny_bind (PySem.W.kdu_collect (A := X.A.in1) (PySem.W.kdl_dict (knd := mixKind X.prog X.w) (kvs := vs) (ep := ep) lo) (I.ok.hd hcalm) hat h16 fun h' tk acc hk hacc => ?_)))
    have al : acc.toList.length = ks.length := by rw [Array.length_toList, hacc.1, hl]
    have aI : IntsAre acc.toList ks := ints_each al fun j v e => by
      obtain ⟨k, x, e1, e2⟩ := hacc.2 j v (by rw [← Array.getElem?_toList]; exact e)
      have e3 : (vs.map (·.1))[j]? = some k := by rw [List.getElem?_map, e1]; rfl
      rw [keys2, List.getElem?_map, Option.map_eq_some_iff] at e3
      obtain ⟨y, e4, rfl⟩ := e3
      rcases keyIs_shape (show keyIs (Sum.inl y) v = true from e2) with ⟨i, t, ek, ev⟩ | ⟨z, t, ek, ev⟩
      · cases ek
        exact ⟨y, t, e4, ev⟩
      · cases ek
    have vz : acc.toList.length ≤ sizeLine := by rw [al, sizeLine_eq]; omega
    refine wpAny_bind (wpAny_newList ?_ vz)
    have at1 : (h'.push (seqObj "list" acc.toList.toArray 0)).get? h'.objs.size = some (seqObj "list" acc.toList.toArray 0) := Heap.get?_push_size _ rfl
    refine wpAny_bind (wpAny_holding (wpAny_call_entry slot_list_sort ⟨_, at1, rfl⟩ entry_list_sort (SrtO.list_sort_ord SrtO.swo_int at1 vz (fun h2 => SrtO.ints_sortable aI h2) fun out hs hb => ⟨_, rfl, ?_⟩) (args_list_sort _)))
    obtain ⟨z1, z2, z3⟩ := SrtO.ints_out aI hs hb
    obtain ⟨c, hc⟩ : ∃ n, (sortedHeap (h'.push (seqObj "list" acc.toList.toArray 0)) h'.objs.size acc.toList out.toArray).get? h'.objs.size = some (seqObj "list" out.toArray n) := sortedHeap_at at1
    have I1 : Inv X pins σ H { s with heap := h', toks := tk } := I.kept hk
    have le : ((out.map SrtO.iv).map V.int).length ≤ sizeLine := by rw [List.length_map, z2.length_eq, sizeLine_eq]; omega
    refine wpAny_pure ⟨_, rfl, .ref h'.objs.size, upd H h'.objs.size (.lst ((out.map SrtO.iv).map V.int)), I1.laid (t' := tk) (fun b u e => ?_) (Nat.le_refl _) ⟨le, out, c, vals_of_ints z1, hc⟩, rfl, q _ _ z2 z3 (I1.hok.fresh (Nat.le_refl _))⟩
    have lt : b < h'.objs.size := Heap.lt_size e
    rw [show (sortedHeap (h'.push (seqObj "list" acc.toList.toArray 0)) h'.objs.size acc.toList out.toArray).get? b = (h'.push (seqObj "list" acc.toList.toArray 0)).get? b from sortedHeap_old (Nat.ne_of_lt lt) (by rw [size_push']; exact Nat.lt_succ_of_lt lt)]
    exact Heap.get?_push_of_some _ e)
end L2
set_option Elab.async false
set_option linter.all false
set_option maxRecDepth 100000
namespace Pu
open PySem PySem.Spec PyProof.Rows L2
noncomputable def insU (k : Int) : List Int → List Int
  | [] => [k]
  | x :: xs => if k < x then k :: x :: xs else if k = x then x :: xs else x :: insU k xs
/-- the members, rising, each once -/
noncomputable def sset (ns : List Int) : List Int := ns.foldr insU []
theorem mem_insU {k j : Int} : ∀ {xs : List Int}, j ∈ insU k xs ↔ j = k ∨ j ∈ xs
  | [] => by simp [insU]
  | x :: xs => by
    unfold insU
    split
    · simp
    · split
      · rename_i h; subst h; simp
      · rw [List.mem_cons, mem_insU, List.mem_cons]
        grind
theorem pw_insU {k : Int} : ∀ {xs : List Int}, xs.Pairwise (· < ·) → (insU k xs).Pairwise (· < ·)
  | [], _ => by simp [insU]
  | x :: xs, h => by
    obtain ⟨h1, h2⟩ := List.pairwise_cons.mp h
    unfold insU
    split
    · rename_i hk
      refine List.pairwise_cons.mpr ⟨fun y hy => ?_, h⟩
      rcases List.mem_cons.mp hy with e | hy
      · omega
      · have := h1 y hy; omega
    · split
      · exact h
      · refine List.pairwise_cons.mpr ⟨fun y hy => ?_, pw_insU h2⟩
        rcases mem_insU.mp hy with e | hy
        · omega
        · exact h1 y hy
theorem mem_sset {j : Int} : ∀ {ns : List Int}, j ∈ sset ns ↔ j ∈ ns
  | [] => by simp [sset]
  | n :: ns => by
    show j ∈ insU n (sset ns) ↔ _
    rw [mem_insU, mem_sset, List.mem_cons]
theorem pw_sset : ∀ ns : List Int, (sset ns).Pairwise (· < ·)
  | [] => by simp [sset]
  | n :: ns => pw_insU (pw_sset ns)
theorem uniq_pw : ∀ {xs ys : List Int}, xs.Pairwise (· < ·) → ys.Pairwise (· < ·) → (∀ k, k ∈ xs ↔ k ∈ ys) → xs = ys
  | [], [], _, _, _ => rfl
  | [], y :: ys, _, _, h => absurd ((h y).mpr List.mem_cons_self) (by simp)
  | x :: xs, [], _, _, h => absurd ((h x).mp List.mem_cons_self) (by simp)
  | x :: xs, y :: ys, hx, hy, h => by
    obtain ⟨x1, x2⟩ := List.pairwise_cons.mp hx
    obtain ⟨y1, y2⟩ := List.pairwise_cons.mp hy
    have e : x = y := by
      rcases List.mem_cons.mp ((h x).mp List.mem_cons_self) with e | m
      · exact e
      · rcases List.mem_cons.mp ((h y).mpr List.mem_cons_self) with e | m'
        · exact e.symm
        · have := y1 x m; have := x1 y m'; omega
    subst e
    rw [uniq_pw x2 y2 fun k => ⟨fun m => by
      rcases List.mem_cons.mp ((h k).mp (List.mem_cons_of_mem _ m)) with e | m'
      · have := x1 k m; omega
      · exact m', fun m => by
      rcases List.mem_cons.mp ((h k).mpr (List.mem_cons_of_mem _ m)) with e | m'
      · have := y1 k m; omega
      · exact m'⟩]
/-- rising with repeats -/
noncomputable def insI (k : Int) : List Int → List Int
  | [] => [k]
  | x :: xs => if k ≤ x then k :: x :: xs else x :: insI k xs
noncomputable def sortI (ns : List Int) : List Int := ns.foldr insI []
theorem perm_insI {k : Int} : ∀ {xs : List Int}, (insI k xs).Perm (k :: xs)
  | [] => .refl _
  | x :: xs => by
    unfold insI
    split
    · exact .refl _
    · exact ((perm_insI (k := k) (xs := xs)).cons x).trans (.swap k x xs)
theorem pw_insI {k : Int} : ∀ {xs : List Int}, xs.Pairwise (· ≤ ·) → (insI k xs).Pairwise (· ≤ ·)
  | [], _ => by simp [insI]
  | x :: xs, h => by
    obtain ⟨h1, h2⟩ := List.pairwise_cons.mp h
    unfold insI
    split
    · rename_i hk
      refine List.pairwise_cons.mpr ⟨fun y hy => ?_, h⟩
      rcases List.mem_cons.mp hy with e | hy
      · omega
      · have := h1 y hy; omega
    · refine List.pairwise_cons.mpr ⟨fun y hy => ?_, pw_insI h2⟩
      rcases List.mem_cons.mp (perm_insI.mem_iff.mp hy) with e | hy
      · omega
      · exact h1 y hy
theorem perm_sortI : ∀ ns : List Int, (sortI ns).Perm ns
  | [] => .refl _
  | n :: ns => perm_insI.trans ((perm_sortI ns).cons n)
theorem pw_sortI : ∀ ns : List Int, (sortI ns).Pairwise (· ≤ ·)
  | [] => List.Pairwise.nil
  | n :: ns => pw_insI (pw_sortI ns)
theorem uniq_le {xs ys : List Int} (hx : xs.Pairwise (· ≤ ·)) (hy : ys.Pairwise (· ≤ ·)) (h : xs.Perm ys) : xs = ys :=
  h.eq_of_pairwise (le := (· ≤ ·)) (fun a b _ _ h1 h2 => by omega) hx hy
/-- set(xs) -/
noncomputable def rSetL (K : PySem.W.Frag) (w : World) : List V → Hp → VK → Prop := fun vs H Q => ∃ (a : Addr) (ns : List Int), vs = [V.ref a] ∧ SqL K H a (ns.map V.int) ∧ ns.length < 4095 ∧
  ∀ (p : Addr) (c : Nat), c ≤ ns.length → H p = none → Q (.ref p) (upd H p (SetO w p (fun j => decide (j ∈ ns)) c))
theorem cr_setL {X : Cx} (hc : X.calm = true) : CallR X (.type "set") (rSetL X.K X.w) := by
  intro pins s σ H vs us Q I r h
  obtain ⟨a, ns, rfl, hs, hn, q⟩ := h
  obtain ⟨its, rv, hl, hz⟩ := I.list hs
  rw [Vals.ref1 r]
  refine set_of_ints ns (I.ok.hd hc) hl.isList rv.ints (by unfold scanBound; omega) fun g t c R hc' hk => ?_
  exact ⟨.ref _, upd H s.heap.objs.size (SetO X.w s.heap.objs.size (fun j => decide (j ∈ ns)) c), I.laid (t' := t) hk (Nat.le_refl _) (setO_new R), rfl, q _ c hc' (I.hok.fresh (Nat.le_refl _))⟩
noncomputable def nSSet (f : Ev D) : Ev DO := fun e S => (f e S).bind fun d S => match (lsOf S d).bind intsL with
  | some ns => if ns.length < 4000 then .ok (.lst ((sset ns).map D.int)) S else .bad
  | none => .bad
noncomputable def nSortI (f : Ev D) : Ev DO := fun e S => (f e S).bind fun d S => match (lsOf S d).bind intsL with
  | some ns => .ok (.lst ((sortI ns).map D.int)) S
  | none => .bad
theorem VRs.ints_map {K : PySem.W.Frag} {am : AM} {H : Hp} : ∀ ns : List Int, VRs K am H (ns.map D.int) (ns.map V.int)
  | [] => .nil
  | n :: ns => .cons (.int n) (VRs.ints_map ns)
section
variable {cl : Str → Addr} {W : WX} {X : Cx} {a : Expr} {f : Ev D} {p p2 pos pos2 : Pos} {x y : Str}
theorem qn_sset (hc : X.calm = true) (hg : Gl X "sorted") (hm : X.mg "sorted" = none) (hg2 : Gl X "set") (hm2 : X.mg "set" = none) (ha : QE cl W X a f)
    (h0 : starEach [a] X.env = (false, eval a X.env) :: starEach [] X.env := by rfl)
    (h1 : starEach [.Call (.Name "set" p2) [a] [] pos2] X.env = (false, eval (.Call (.Name "set" p2) [a] [] pos2) X.env) :: starEach [] X.env := by rfl)
    (hpl : (backTo pos (starEach [] X.env)).any (·.1) = false := by rfl) (hpl2 : (backTo pos2 (starEach [] X.env)).any (·.1) = false := by rfl) :
    QN cl W X (.Call (.Name "sorted" p) [.Call (.Name "set" p2) [a] [] pos2] [] pos) (nSSet f) :=
  (pe_callB (cr_sortedSetX hc) hg hm (by decide +kernel) (pa_cons (pe_callTy (cr_setL hc) hg2 hm2 (by decide +kernel) (pa_cons ha pa_nil h0) (by decide) (by decide) h0 hpl2) pa_nil h1) (by decide) (by decide) h1 hpl).imp fun σ H Q ⟨am, e, S, rs, re, q0⟩ =>
    ⟨am, e, S, rs, re, (PostN.step q0).imp fun v H1 ⟨am1, S1, d, _, g1, rs1, rv, q1⟩ => by
      cases e1 : (lsOf S1 d).bind intsL with
      | none => rw [e1] at q1; exact q1.elim
      | some ns =>
        rw [e1] at q1
        simp only at q1
        by_cases hl : ns.length < 4000
        · rw [if_pos hl] at q1
          cases e2 : lsOf S1 d with
          | none => rw [e2] at e1; cases e1
          | some xs =>
            rw [e2, Option.bind_some] at e1
            obtain ⟨l, us, ev, h2, h3⟩ := lsOf_ok rs1 rv e2
            subst ev
            have h4 := ints_ok h3 e1
            subst h4
            refine ⟨l, ns, rfl, h2, by omega, fun p c hc hp => ?_⟩
            refine ⟨p, _, c, rfl, upd_same, fun ns' p' hs hm hl' hp' => ?_⟩
            have en : ns' = sset ns := uniq_pw hs (pw_sset ns) fun k => by rw [hm, mem_sset, decide_eq_true_iff]
            subst en
            exact PostN.laid q1 (g1.trans (Grow.upd hp)) (rs1.upd hp) hp' ⟨_, upd_same, VRs.ints_map _⟩
        · rw [if_neg hl] at q1
          exact q1.elim⟩
theorem qn_sortI (hg : Gl X "sorted") (hm : X.mg "sorted" = none) (ha : QE cl W X a f)
    (h0 : starEach [a] X.env = (false, eval a X.env) :: starEach [] X.env := by rfl) (hpl : (backTo pos (starEach [] X.env)).any (·.1) = false := by rfl) :
    QN cl W X (.Call (.Name "sorted" p) [a] [] pos) (nSortI f) :=
  (pe_callB cr_sortedI hg hm (by decide +kernel) (pa_cons ha pa_nil h0) (by decide) (by decide) h0 hpl).imp fun σ H Q ⟨am, e, S, rs, re, q0⟩ =>
    ⟨am, e, S, rs, re, (PostN.step q0).imp fun v H1 ⟨am1, S1, d, _, g1, rs1, rv, q1⟩ => by
      cases e1 : (lsOf S1 d).bind intsL with
      | none => rw [e1] at q1; exact q1.elim
      | some ns =>
        rw [e1] at q1
        cases e2 : lsOf S1 d with
        | none => rw [e2] at e1; cases e1
        | some xs =>
          rw [e2, Option.bind_some] at e1
          obtain ⟨l, us, ev, h2, h3⟩ := lsOf_ok rs1 rv e2
          subst ev
          have h4 := ints_ok h3 e1
          subst h4
          refine ⟨l, ns, rfl, h2, fun ns' p' hp hs hp' => ?_⟩
          have en : ns' = sortI ns := uniq_le hs (pw_sortI ns) (hp.trans (perm_sortI ns).symm)
          subst en
          exact PostN.laid q1 g1 rs1 hp' ⟨_, upd_same, VRs.ints_map _⟩⟩
end
end Pu
set_option Elab.async false
set_option linter.all false
set_option maxRecDepth 100000
namespace Pu
open PySem PySem.Spec PyProof.Rows L2
section
variable {P : Program} {w : World} {A : Around} {E : Value → Shared → Prop} {s : Shared}
theorem sorted_sq {t : Addr} {T : String} {o : Obj} {n : Nat} {vs : List Value} {k : Value → Int × Int} {R : Value → Shared → Prop} (hT : T = "list" ∨ T = "tuple") (ho : s.heap.get? t = some o) (hc : o.cls = .type T) (hd : o.data = .seq vs.toArray n) (hz : vs.length ≤ sizeLine)
    (hp : ∀ v ∈ vs, Srt.IsPair s.heap v (k v).1 (k v).2)
    (q : ∀ (g : Heap) (d : Addr) (out : List Value), SrtO.Srtd (fun v u => SrtO.lexB (k v) (k u)) out → SrtO.Stb (fun v u => SrtO.lexB (k v) (k u)) out vs → (∀ b o, s.heap.get? b = some o → g.get? b = some o) → s.heap.get? d = none → (∃ n, g.get? d = some (seqObj "list" out.toArray n)) → R (.ref d) { s with heap := g }) :
    wpAny (model P w) A (call (.builtin "sorted") [.ref t]) R E s := by
  refine Calls.call_function_entry kind_sorted plain_sorted entry_sorted (args_sorted1 (.ref t)) (by
    unfold Builtin.«sorted»
    refine wpAny_bind (m := checkCount "sorted" 1 1 _) (wpAny_pure (wpAny_bind (wpAny_collect_seq t hT ho hc hd (fun g hg => ?_) (by rw [List.size_toArray]; exact hz))))
    rw [List.toList_toArray]
    refine wpAny_bind (wpAny_newList ?_ hz)
    have at1 : (g.push (seqObj "list" vs.toArray 0)).get? g.objs.size = some (seqObj "list" vs.toArray 0) := Heap.get?_push_size _ rfl
    have kp : ∀ b o, s.heap.get? b = some o → b ≠ g.objs.size ∧ (g.push (seqObj "list" vs.toArray 0)).get? b = some o := fun b o e =>
      ⟨Nat.ne_of_lt (Heap.lt_size (hg b o e)), Heap.get?_push_of_some _ (hg b o e)⟩
    refine wpAny_bind (wpAny_holding (wpAny_call_entry slot_list_sort ⟨_, at1, rfl⟩ entry_list_sort (SrtO.list_sort_ord (SrtO.swo_lex k) at1 hz (fun h2 => SrtO.pairs_sortableO (by omega) (fun v hv => (hp v hv).keeps fun b o e _ => (kp b o e).2) fun o' e' => ?_) fun out hs hb => ⟨_, rfl, ?_⟩) (args_list_sort _)))
    · have e2 : some o' = some (seqObj "list" vs.toArray 0) := e'.symm.trans at1
      cases e2
      exact fun c => absurd (Value.type.inj c) (by decide)
    · have at2 : ∃ n, (sortedHeap (g.push (seqObj "list" vs.toArray 0)) g.objs.size vs out.toArray).get? g.objs.size = some (seqObj "list" out.toArray n) := sortedHeap_at at1
      refine wpAny_pure ⟨_, rfl, q _ g.objs.size out hs hb (fun b o e => ?_) ?_ at2⟩
      rotate_left
      · cases e : s.heap.get? g.objs.size with
        | none => rfl
        | some o' => exact absurd rfl (kp _ _ e).1
      obtain ⟨k1, k2⟩ := kp b o e
      rw [sortedHeap_old k1 (Heap.lt_size k2)]
      exact k2)
end
theorem obj_there {P : Program} {w : World} {H : Hp} {h : Heap} {a : Addr} {o : HO} (x : ObjOk P w H h a o) : ∃ u, h.get? a = some u := by
  cases o with
  | lst xs => obtain ⟨_, _, _, _, e⟩ := x; exact ⟨_, e⟩
  | tup xs => obtain ⟨_, _, _, _, e, _⟩ := x; exact ⟨_, e⟩
  | dK kvs => obtain ⟨_, _, _, _, o, _, _, e, _⟩ := x; exact ⟨_, e⟩
  | dT kvs => obtain ⟨_, _, _, _, o, _, _, e, _⟩ := x; exact ⟨_, e⟩
  | set S n => obtain ⟨o, _, _, _, e, _⟩ := x; exact ⟨_, e⟩
  | ins C dx fs => obtain ⟨_, _, _, e, _⟩ := x; exact ⟨_, e⟩
  | own y => exact x
  | xd fs => obtain ⟨_, ⟨_, _, _, e, _⟩, _⟩ := x; exact ⟨_, e⟩
  | rng lo hi => obtain ⟨_, _, _, e⟩ := x; exact ⟨_, e⟩
  | frz ob u => obtain ⟨e, _⟩ := x; exact ⟨_, e⟩
  | tbl ps => exact ⟨_, x⟩
  | met f y => exact ⟨_, x⟩
  | ext φ => exact x.2.1
noncomputable def insP (k : Int × Int) : List (Int × Int) → List (Int × Int)
  | [] => [k]
  | x :: xs => if SrtO.lexB x k = true then x :: insP k xs else k :: x :: xs
noncomputable def sortP (ps : List (Int × Int)) : List (Int × Int) := ps.foldr insP []
theorem perm_insP {k : Int × Int} : ∀ {xs : List (Int × Int)}, (insP k xs).Perm (k :: xs)
  | [] => .refl _
  | x :: xs => by
    unfold insP
    split
    · exact ((perm_insP (k := k) (xs := xs)).cons x).trans (.swap k x xs)
    · exact .refl _
noncomputable abbrev leP (p q : Int × Int) : Prop := p.1 < q.1 ∨ (p.1 = q.1 ∧ p.2 ≤ q.2)
theorem leP_of {p q : Int × Int} (h : SrtO.lexB q p = false) : leP p q := by
  have := SrtO.lexB_no.mp h
  unfold leP
  omega
theorem leP_trans {p q r : Int × Int} (h : leP p q) (h' : leP q r) : leP p r := by
  unfold leP at *
  omega
theorem pw_insP {k : Int × Int} : ∀ {xs : List (Int × Int)}, xs.Pairwise leP → (insP k xs).Pairwise leP
  | [], _ => List.pairwise_singleton _ _
  | x :: xs, h => by
    obtain ⟨h1, h2⟩ := List.pairwise_cons.mp h
    unfold insP
    split
    · rename_i hk
      refine List.pairwise_cons.mpr ⟨fun y hy => ?_, pw_insP h2⟩
      rcases List.mem_cons.mp (perm_insP.mem_iff.mp hy) with e | hy
      · subst e
        have := SrtO.lexB_iff.mp hk
        unfold leP
        omega
      · exact h1 y hy
    · rename_i hk
      have hx : leP k x := leP_of (by simpa using hk)
      refine List.pairwise_cons.mpr ⟨fun y hy => ?_, h⟩
      rcases List.mem_cons.mp hy with e | hy
      · subst e; exact hx
      · exact leP_trans hx (h1 y hy)
theorem perm_sortP : ∀ ps : List (Int × Int), (sortP ps).Perm ps
  | [] => .refl _
  | n :: ns => perm_insP.trans ((perm_sortP ns).cons n)
theorem pw_sortP : ∀ ps : List (Int × Int), (sortP ps).Pairwise leP
  | [] => List.Pairwise.nil
  | n :: ns => pw_insP (pw_sortP ns)
theorem uniq_leP {xs ys : List (Int × Int)} (hx : xs.Pairwise leP) (hy : ys.Pairwise leP) (h : xs.Perm ys) : xs = ys :=
  h.eq_of_pairwise (le := leP) (fun a b _ _ h1 h2 => by
    obtain ⟨a1, a2⟩ := a
    obtain ⟨b1, b2⟩ := b
    simp only [leP] at h1 h2
    simp only [Prod.mk.injEq]
    omega) hx hy
/-- the pair that lies at a value -/
noncomputable def pairAt (h : Heap) (v : Value) : Int × Int := match v with
  | .ref t => match h.get? t with
    | some o => match o.data with
      | .seq xs _ => match xs.toList with
        | [.int i _, .int j _] => (i, j)
        | _ => (0, 0)
      | _ => (0, 0)
    | none => (0, 0)
  | _ => (0, 0)
noncomputable def rSortedPQ (K : PySem.W.Frag) : List V → Hp → VK → Prop := fun vs H Q => ∃ (a : Addr) (xs : List V) (ps : List (Int × Int)) (R : V → Int × Int → Prop), vs = [V.ref a] ∧ (SqL K H a xs ∨ SqT K H a xs) ∧ Paired R xs ps ∧ (∀ x p, R x p → ∃ t, x = V.ref t ∧ SqT K H t [.int p.1, .int p.2]) ∧
  ∀ ys q, Paired R ys (sortP ps) → H q = none → Q (.ref q) (upd H q (.lst ys))
theorem cr_sortedPQ {X : Cx} : CallR X (.builtin "sorted") (rSortedPQ X.K) := by
  intro pins s σ H vs us Q I r h
  obtain ⟨a, xs, ps, R, rfl, hs, hR, hx, q⟩ := h
  obtain ⟨u, rfl, ru⟩ := vals1 r
  obtain rfl : u = Value.ref a := ru
  have hsq : ∃ (its : List Value) (T : String) (o : Obj) (n : Nat), Vals xs its ∧ xs.length ≤ sizeLine ∧ (T = "list" ∨ T = "tuple") ∧ s.heap.get? a = some o ∧ o.cls = .type T ∧ o.data = .seq its.toArray n := by
    rcases hs with hs | hs
    · obtain ⟨its, rv, ⟨o, n, e, hc, _, hd⟩, hz⟩ := I.list hs
      exact ⟨its, "list", o, n, rv, hz, .inl rfl, e, hc, hd⟩
    · obtain ⟨its, rv, ⟨o, e, hc, n, hd⟩, hz⟩ := I.tuple hs
      exact ⟨its, "tuple", o, n, rv, hz, .inr rfl, e, hc, hd⟩
  obtain ⟨its, T, o, n, rv, hz, hT, ho, hc, hd⟩ := hsq
  have key : ∀ x p v, R x p → RelV x v → Srt.IsPair s.heap v p.1 p.2 ∧ x = backV v ∧ pairAt s.heap v = p ∧ ∃ t, v = Value.ref t := by
    intro x p v hxp hv
    obtain ⟨t, rfl, hq⟩ := hx x p hxp
    obtain rfl : v = Value.ref t := hv
    obtain ⟨its2, r2, ⟨o2, ho2, hc2, n2, hd2⟩, _⟩ := I.tuple hq
    obtain ⟨u1, u2, rfl, ri, rj⟩ := vals2 r2
    obtain ⟨t1, rfl⟩ := ri
    obtain ⟨t2, rfl⟩ := rj
    refine ⟨⟨t, o2, t1, t2, n2, rfl, ho2, hc2, hd2⟩, rfl, ?_, t, rfl⟩
    simp only [pairAt, ho2, hd2]
  have all : ∀ {xs : List V} {ps : List (Int × Int)} {its : List Value}, Paired R xs ps → Vals xs its → its.map (pairAt s.heap) = ps ∧ ∀ v ∈ its, R (backV v) (pairAt s.heap v) ∧ Srt.IsPair s.heap v (pairAt s.heap v).1 (pairAt s.heap v).2 ∧ ∃ t, v = Value.ref t := by
    intro xs ps its h1
    induction h1 generalizing its with
    | nil => intro h2; cases h2; exact ⟨rfl, fun v hv => absurd hv (by simp)⟩
    | cons r1 _ ih =>
      intro h2
      cases h2 with
      | cons rv t =>
        obtain ⟨k1, k2, k3, k4⟩ := key _ _ _ r1 rv
        obtain ⟨i1, i2⟩ := ih t
        refine ⟨by rw [List.map_cons, k3, i1], fun v hv => ?_⟩
        rcases List.mem_cons.mp hv with e | hv
        · subst e
          rw [k3, ← k2]
          exact ⟨r1, k1, k4⟩
        · exact i2 v hv
  obtain ⟨e1, e2⟩ := all hR rv
  refine sorted_sq (k := pairAt s.heap) hT ho hc hd (by rw [← rv.length]; exact hz) (fun v hv => (e2 v hv).2.1) fun g d out h1 h2 kp hn0 hn => ?_
  have h3 : ∀ v ∈ out, R (backV v) (pairAt s.heap v) ∧ ∃ t, v = Value.ref t := fun v hv => by
    obtain ⟨i1, _, i3⟩ := e2 v (h2.perm.mem_iff.mp hv)
    exact ⟨i1, i3⟩
  have h4 : out.map (pairAt s.heap) = sortP ps := by
    refine uniq_leP (List.pairwise_map.mpr (h1.imp fun {x y} h => leP_of h)) (pw_sortP ps) ?_
    have := h2.perm.map (pairAt s.heap)
    rw [e1] at this
    exact this.trans (perm_sortP ps).symm
  have h5 : ∀ zs : List Value, (∀ v ∈ zs, R (backV v) (pairAt s.heap v)) → Paired R (zs.map backV) (zs.map (pairAt s.heap)) := by
    intro zs
    induction zs with
    | nil => intro _; exact .nil
    | cons z zs ih => intro h; exact .cons (h z List.mem_cons_self) (ih fun v hv => h v (List.mem_cons_of_mem _ hv))
  have hd0 : H d = none := by
    cases e : H d with
    | none => rfl
    | some u =>
      obtain ⟨u', hu⟩ := obj_there (I.hok d u e)
      rw [hn0] at hu
      cases hu
  obtain ⟨m, hm⟩ := hn
  have h6 := h5 out fun v hv => (h3 v hv).1
  rw [h4] at h6
  refine ⟨.ref d, upd H d (.lst (out.map backV)), I.laidN (t' := s.toks) kp hn0 hd0 ⟨?_, out, m, vals_back fun u hu => (h3 u hu).2, hm⟩, rfl, q _ d h6 hd0⟩
  rw [List.length_map, h2.perm.length_eq, ← rv.length]
  exact hz
noncomputable abbrev rowD : Int × Int → D := prD D.int D.int
noncomputable def prsL : List D → Option (List (Int × Int))
  | [] => some []
  | .tup [.int i, .int j] :: xs => (prsL xs).map ((i, j) :: ·)
  | _ :: _ => none
theorem prsL_eq : ∀ {xs : List D} {ps : List (Int × Int)}, prsL xs = some ps → xs = ps.map rowD := by
  intro xs
  induction xs with
  | nil => intro ps h; cases h; rfl
  | cons x xs ih =>
    intro ps h
    unfold prsL at h
    split at h
    · cases h; rename_i e; cases e
    · rename_i i j ys e
      cases e
      cases q : prsL xs with
      | none => rw [q] at h; cases h
      | some qs =>
        rw [q] at h
        cases h
        rw [ih q]
        rfl
    · cases h
noncomputable def nSortP (f : Ev D) : Ev DO := fun e S => (f e S).bind fun d S => match (sqOf S d).bind prsL with
  | some ps => .ok (.lst ((sortP ps).map rowD)) S
  | none => .bad
section
variable {cl : Str → Addr} {W : WX} {X : Cx} {a : Expr} {f : Ev D} {p pos : Pos}
theorem vrs_pair {K : PySem.W.Frag} {am : AM} {H : Hp} : ∀ {ps : List (Int × Int)} {vs : List V}, VRs K am H (ps.map rowD) vs → Paired (fun x p => VR K am H (rowD p) x) vs ps
  | [], _, .nil => .nil
  | _ :: _, _, .cons h t => .cons h (vrs_pair t)
theorem pair_vrs {K : PySem.W.Frag} {am : AM} {H : Hp} : ∀ {ps : List (Int × Int)} {vs : List V}, Paired (fun x p => VR K am H (rowD p) x) vs ps → VRs K am H (ps.map rowD) vs
  | [], _, .nil => .nil
  | _ :: _, _, .cons h t => .cons h (pair_vrs t)
theorem row_sq {K : PySem.W.Frag} {am : AM} {H : Hp} {q : Int × Int} {x : V} (h : VR K am H (rowD q) x) : ∃ t, x = V.ref t ∧ SqT K H t [.int q.1, .int q.2] := by
  cases h with
  | tup t hs =>
    cases hs with
    | cons h1 hs =>
      cases h1
      cases hs with
      | cons h2 hs =>
        cases h2
        cases hs
        exact ⟨_, rfl, t.seq⟩
theorem qn_sortP (hg : Gl X "sorted") (hm : X.mg "sorted" = none) (ha : QE cl W X a f)
    (h0 : starEach [a] X.env = (false, eval a X.env) :: starEach [] X.env := by rfl) (hpl : (backTo pos (starEach [] X.env)).any (·.1) = false := by rfl) :
    QN cl W X (.Call (.Name "sorted" p) [a] [] pos) (nSortP f) :=
  (pe_callB cr_sortedPQ hg hm (by decide +kernel) (pa_cons ha pa_nil h0) (by decide) (by decide) h0 hpl).imp fun σ H Q ⟨am, e, S, rs, re, q0⟩ =>
    ⟨am, e, S, rs, re, (PostN.step q0).imp fun v H1 ⟨am1, S1, d, _, g1, rs1, rv, q1⟩ => by
      cases e1 : (sqOf S1 d).bind prsL with
      | none => rw [e1] at q1; exact q1.elim
      | some ps =>
        rw [e1] at q1
        cases e2 : sqOf S1 d with
        | none => rw [e2] at e1; cases e1
        | some xs =>
          rw [e2, Option.bind_some] at e1
          obtain ⟨l, us, ev, h2, h3⟩ := sqOf_ok rs1 rv e2
          subst ev
          rw [prsL_eq e1] at h3
          exact ⟨l, us, ps, fun x p => VR X.K am1 H1 (rowD p) x, rfl, h2, vrs_pair h3, fun x p h => row_sq h, fun ys p' hp hp' => PostN.laid q1 g1 rs1 hp' ⟨_, upd_same, (pair_vrs hp).mono (Grow.resv hp')⟩⟩⟩
end
end Pu
set_option Elab.async false
set_option linter.all false
set_option maxRecDepth 100000
namespace Pu
open PySem PySem.Spec PyProof.Rows L2
section
variable {cl : Str → Addr} {W : WX} {X : Cx} {a b o : Expr} {f g : Ev D} {pos apos cpos : Pos}
noncomputable def isBD (neg : Bool) (d e : D) (S : Sto) : Res D := match d, e with
  | .bl x, .bl y => .ok (.bl (if neg = true then !decide (x = y) else decide (x = y))) S
  | _, _ => .bad
@[simp] theorem isBD_bl {neg x y : Bool} {S : Sto} : isBD neg (.bl x) (.bl y) S = .ok (.bl (if neg = true then !decide (x = y) else decide (x = y))) S := id rfl
/-- xs.pop(i) -/
noncomputable def popD (o : D) (ds : List D) (S : Sto) : Res D := match o, ds with
  | .ref k, [.int i] => match S[k]? with
    | some (.lst xs) => match ixN xs.length i with
      | some n => match xs[n]? with
        | some y => if -(2 ^ 63) ≤ i ∧ i < 2 ^ 63 then .ok y (S.set k (.lst (xs.eraseIdx n))) else .bad
        | none => .bad
      | none => .bad
    | _ => .bad
  | _, _ => .bad
theorem VRs.erase {K : PySem.W.Frag} {am : AM} {H : Hp} : ∀ {ds : List D} {vs : List V} (n : Nat), VRs K am H ds vs → VRs K am H (ds.eraseIdx n) (vs.eraseIdx n)
  | _, _, _, .nil => .nil
  | _, _, 0, .cons _ t => t
  | _, _, n + 1, .cons h t => .cons h (VRs.erase n t)
theorem ok_pop : OkM X.K cl "list" rPopAt popD := by
  intro W σ am S H o ds x vs Q rs h1 h2 p
  cases h1 with
  | @ref k a hk =>
    cases h2 with
    | nil => exact p.elim
    | cons r1 r2 =>
      cases r2 with
      | cons _ _ => cases r1 <;> exact p.elim
      | nil =>
        cases r1 with
        | int i =>
          simp only [popD] at p
          cases e1 : S[k]? with
          | none => rw [e1] at p; exact p.elim
          | some ob =>
            rw [e1] at p
            cases ob with
            | lst xs =>
              obtain ⟨us, q1, q2⟩ := rs.ob k _ a e1 hk
              simp only at p
              cases e2 : ixN xs.length i with
              | none => rw [e2] at p; exact p.elim
              | some n =>
                rw [e2] at p
                simp only at p
                cases e3 : xs[n]? with
                | none => rw [e3] at p; exact p.elim
                | some y =>
                  rw [e3] at p
                  simp only at p
                  by_cases hz : -(2 ^ 63) ≤ i ∧ i < 2 ^ 63
                  · rw [if_pos hz] at p
                    obtain ⟨u, hu, ru⟩ := q2.get e3
                    have hm : a ∈ am.ad := List.mem_of_getElem? hk
                    refine ⟨a, us, i, n, u, rfl, rfl, q1, hz.1, hz.2, ?_, hu, p am _ _ (Grow.put hm) (rs.put hk ⟨_, upd_same, (q2.erase n).mono (Grow.put hm)⟩) (ru.mono (Grow.put hm))⟩
                    rw [← q2.length]
                    exact (ixN_seq e2).1
                  · rw [if_neg hz] at p
                    exact p.elim
            | _ => exact p.elim
        | _ => exact p.elim
  | _ => exact p.elim
theorem qe_pop1 (ho : QE cl W X o g) (ha : QE cl W X a f) (h0 : starEach [a] X.env = (false, eval a X.env) :: starEach [] X.env := by rfl)
    (hbase : attributeBase o "pop" X.env (eval o X.env) = eval o X.env := by rfl)
    (hfew : ((backTo cpos (starEach [a] X.env)).all (fun x => !x.1) && (backToKw cpos (keywordEach [] X.env)).all (fun x => x.1.isSome) && decide (([a] : List Expr).length + ([] : List Keyword).length + (if ([] : List Keyword).isEmpty then 0 else 1) < 30)) = true := by rfl)
    (hline : (apos.endLine == cpos.line) = true := by rfl) (hplain : (backTo cpos (starEach [] X.env)).any (·.1) = false := by rfl) :
    QE cl W X (.Call (.Attribute o "pop" apos) [a] [] cpos) (eM "list" popD g [f]) := qe_bm PySem.F.plainAttrs_list PySem.F.slot_list_pop PySem.F.type_list_pop mt_popAt ok_pop ho (qa_cons ha qa_nil h0) hbase hfew hline h0 hplain
end
noncomputable def srcS (d : D) (S : Sto) : Res Src := match d with
  | .tup xs => srcT (.tup xs) S
  | d => srcL d S
noncomputable def iS (f : Ev D) : Ev Src := fun e S => (f e S).bind srcS
theorem iS_is (f : Ev D) (e : En) (S : Sto) : iS f e S = iT f e S ∨ iS f e S = iL f e S := by
  unfold iS iT iL
  cases f e S with
  | ok d S1 =>
    cases d with
    | tup xs => exact .inl rfl
    | _ => exact .inr rfl
  | exc c S1 => exact .inl rfl
  | bad => exact .inl rfl
theorem qi_s {cl : Str → Addr} {W : WX} {X : Cx} {a tgE : Expr} {f : Ev D} (ha : QE cl W X a f) : QI cl W X tgE a (iS f) := ⟨fun pins s σ H R I h => by
  obtain ⟨am, e, S, rs, re, p⟩ := h
  rcases iS_is f e S with q | q
  · exact (qi_t ha).run pins s σ H R I ⟨am, e, S, rs, re, by rw [← q]; exact p⟩
  · exact (qi_l ha).run pins s σ H R I ⟨am, e, S, rs, re, by rw [← q]; exact p⟩⟩
section
variable {dead vs : List Nat} {tg : Tg} {f g : Ev D} {a : Stm} {e : En} {S : Sto} {xs ys : List D} {t : Ev Bool}
@[simp] theorem ap_iS : iS f e S = (f e S).bind srcS := id rfl
@[simp] theorem srcS_tup : srcS (.tup xs) S = .ok (.tmp xs) S := id rfl
@[simp] theorem srcS_lst : srcS (.lst xs) S = .ok (.tmp xs) S := id rfl
@[simp] theorem srcS_fls : srcS (.fls xs) S = .ok (.tmp xs) S := id rfl
theorem srcS_ref {k : Nat} (h : S[k]? = some (.lst xs)) : srcS (.ref k) S = .ok (.st k xs) S := srcL_ref h
/-- data that are walked -/
noncomputable def isSq (d : D) (xs : List D) : Prop := d = .tup xs ∨ d = .lst xs ∨ d = .fls xs
theorem forS {d : D} (hf : f e S = .ok d S) (h : isSq d xs) : sFor dead tg (iS f) a e S = forD dead tg (.tmp xs) a xs e S := by
  rcases h with rfl | rfl | rfl <;> · rw [ap_For, ap_iS, hf, Res.bind_ok]; rfl
theorem forS_tup (hf : f e S = .ok (.tup xs) S) : sFor dead tg (iS f) a e S = forD dead tg (.tmp xs) a xs e S := forS hf (.inl rfl)
theorem forS_lst (hf : f e S = .ok (.lst xs) S) : sFor dead tg (iS f) a e S = forD dead tg (.tmp xs) a xs e S := forS hf (.inr (.inl rfl))
theorem nLcS {d : D} (hf : f e S = .ok d S) (h : isSq d xs) (hl : xs.length < 1048576) (q : lcD tg (.tmp xs) t g (wipeE e vs) xs S = .ok ys S) : nLc vs tg (iS f) t g e S = .ok (.lst ys) S := by
  have e1 : iS f e S = .ok (.tmp xs) S := by
    rcases h with rfl | rfl | rfl <;> · rw [ap_iS, hf, Res.bind_ok]; rfl
  rw [ap_Lc, e1, Res.bind_ok]
  simp only [Src.items_tmp]
  rw [if_pos (Nat.le_of_lt (sz hl)), q, Res.bind_ok]
theorem nLcS_tup (hf : f e S = .ok (.tup xs) S) (hl : xs.length < 1048576) (q : lcD tg (.tmp xs) t g (wipeE e vs) xs S = .ok ys S) : nLc vs tg (iS f) t g e S = .ok (.lst ys) S := nLcS hf (.inl rfl) hl q
end
theorem intsD_map {f : List Int → D} {ns : List Int} {S : Sto} : intsD f [.lst (ns.map D.int)] S = .ok (f ns) S := by
  simp only [intsD, lsOf_lst, Option.bind_some, Pu.ints_map]
theorem addT {α : Type} {f : α → D} {xs ys : List α} {S : Sto} (h : xs.length + ys.length < 1000000) : addD (tpD f xs) (tpD f ys) S = .ok (tpD f (xs ++ ys)) S := by
  unfold tpD
  rw [addD_tup, if_pos (Nat.le_of_lt (sz (by simp only [List.length_map]; omega))), List.map_append]
theorem nss {S : Sto} {e : En} {n : Ev DO} {ns : List Int} (h : n e S = .ok (.lst (ns.map D.int)) S) (hl : ns.length < 4000) : nSSet (eAno n) e S = .ok (.lst ((sset ns).map D.int)) S := by
  simp only [nSSet, goS, h, lsOf_lst, Option.bind_some, Pu.ints_map, if_pos hl]
noncomputable abbrev intsT : List Int → D := tpD D.int
theorem rpRow : Rp rowD 1 := Rp.int.pr Rp.int
theorem cut_from {α : Type} {xs : List α} {a : Nat} : cutL xs (some (a : Int)) none = xs.drop a := by
  unfold cutL
  rw [HT.sIx_nat, HT.sIx_none]
  by_cases h : a ≤ xs.length
  · rw [Nat.min_eq_left h, List.take_of_length_le (by simp)]
  · rw [Nat.min_eq_right (by omega), List.drop_of_length_le (Nat.le_refl _), List.drop_of_length_le (by omega)]
    simp
@[simp] theorem slD_tup {xs : List D} {lo hi : Option Int} {S : Sto} : slD (.tup xs) lo hi S = .ok (.tup (cutL xs lo hi)) S := id rfl
@[simp] theorem slD_lst {xs : List D} {lo hi : Option Int} {S : Sto} : slD (.lst xs) lo hi S = .ok (.lst (cutL xs lo hi)) S := id rfl
theorem addL {xs ys : List D} {S : Sto} (h : xs.length + ys.length < 1000000) : addD (.lst xs) (.lst ys) S = .ok (.lst (xs ++ ys)) S := by
  have e : addD (.lst xs) (.lst ys) S = catL (some xs) (some ys) S := rfl
  rw [e]
  unfold catL
  simp only
  rw [if_pos (Nat.le_of_lt (sz (by omega)))]
theorem popD_ref {k n : Nat} {i : Int} {xs : List D} {y : D} {S : Sto} (h : S[k]? = some (.lst xs)) (hi : i = (n : Int)) (hn : n < 1048576) (hy : xs[n]? = some y) : popD (.ref k) [.int i] S = .ok y (S.set k (.lst (xs.eraseIdx n))) := by
  subst hi
  have hl : n < xs.length := (List.getElem?_eq_some_iff.mp hy).1
  have e : ixN xs.length (n : Int) = some n := by
    unfold ixN
    rw [if_pos (by omega), if_pos (by omega)]
    rfl
  simp only [popD, h, e, hy]
  rw [if_pos (by omega)]
end Pu
set_option Elab.async false
set_option linter.all false
set_option maxRecDepth 100000
namespace Pu
open PySem PySem.Spec PyProof.Rows L2
noncomputable def getD2 (o i z : D) (S : Sto) : Res D := match dcOf S o with
  | some kvs => match keyOf i with
    | some k => .ok ((getK kvs k).getD z) S
    | none => .bad
  | none => .bad
noncomputable def eGet (f g h : Ev D) : Ev D := fun e S => (f e S).bind fun o S => if (dcOf S o).isSome = true then (g e S).bind fun i S => (h e S).bind fun z S => getD2 o i z S else .bad
/-- the keys, all of them ints -/
noncomputable def keysI : List (Key × D) → Option (List Int)
  | [] => some []
  | (.inl i, _) :: r => (keysI r).map (i :: ·)
  | _ :: _ => none
noncomputable def nSortD (f : Ev D) : Ev DO := fun e S => (f e S).bind fun d S => match (dcOf S d).bind keysI with
  | some ns => if ns.length < 4000 then .ok (.lst ((sortI ns).map D.int)) S else .bad
  | none => .bad
theorem keysI_ok {K : PySem.W.Frag} {am : AM} {H : Hp} : ∀ {ds : List (Key × D)} {vs : List (Key × V)} {ns : List Int}, VRk K am H ds vs → keysI ds = some ns → vs.map (·.1) = ns.map Sum.inl
  | _, _, _, .nil, e => by cases e; rfl
  | _, _, ns, .cons (k := k) (ds := ds) h t, e => by
    cases k with
    | inl i =>
      simp only [keysI] at e
      cases q : keysI ds with
      | none => rw [q] at e; cases e
      | some ms =>
        rw [q] at e
        cases e
        rw [List.map_cons, keysI_ok t q]
        rfl
    | inr x => cases e
section
variable {cl : Str → Addr} {W : WX} {X : Cx} {a b c : Expr} {f g h : Ev D} {p pos apos cpos : Pos}
theorem qe_get {k : Nat} (hr : Room k X.A) (ho : QE cl W X a f) (hi : QE cl W X b g) (hz : QE cl W X c h)
    (m1 : attributeBase a "get" X.env (eval a X.env) = eval a X.env := by rfl)
    (m2 : ((backTo cpos (starEach [b, c] X.env)).all (fun x => !x.1) && (backToKw cpos (keywordEach [] X.env)).all (fun x => x.1.isSome) && decide (([b, c] : List Expr).length + ([] : List Keyword).length + (if ([] : List Keyword).isEmpty then 0 else 1) < 30)) = true := by rfl)
    (m3 : (apos.endLine == cpos.line) = true := by rfl) (m4 : backTo cpos (starEach [b, c] X.env) = [(false, eval b X.env), (false, eval c X.env)] := by rfl) :
    QE cl W X (.Call (.Attribute a "get" apos) [b, c] [] cpos) (eGet f g h) :=
  (pe_dget2 (hu_of hr) ho hi hz ⟨m1, m2, m3, m4⟩).imp fun σ H Q ⟨am, e, S, rs, re, q0⟩ =>
    ⟨am, e, S, rs, re, (Post.step q0).imp fun x H1 ⟨am1, S1, d1, _, g1, rs1, rv1, q1⟩ => by
      cases e1 : dcOf S1 d1 with
      | none => simp only [e1] at q1; exact q1.elim
      | some kvs =>
        simp only [e1, Option.isSome_some, if_true] at q1
        obtain ⟨l, us, ev, h1, h2⟩ := dcOf_ok rs1 rv1 e1
        subst ev
        refine ⟨l, rfl, .inl ⟨us, .inl h1⟩, am1, e, S1, rs1, re.mono g1, (Post.step q1).imp fun y H2 ⟨am2, S2, d2, _, g2, rs2, rv2, q2⟩ => ?_⟩
        refine ⟨am2, e, S2, rs2, (re.mono g1).mono g2, (Post.step q2).imp fun z H3 ⟨am3, S3, d3, _, g3, rs3, rv3, q3⟩ => ?_⟩
        have rv1' := (rv1.mono g2).mono g3
        unfold getD2 at q3
        cases e2 : dcOf S3 d1 with
        | none => rw [e2] at q3; exact q3.elim
        | some kvs3 =>
          rw [e2] at q3
          simp only at q3
          cases e3 : keyOf d2 with
          | none => rw [e3] at q3; exact q3.elim
          | some k =>
            rw [e3] at q3
            simp only at q3
            obtain ⟨l', us', ev, h3, h4⟩ := dcOf_ok rs3 rv1' e2
            cases ev
            refine ⟨valV us' k, .inl ⟨us', k, .inl h3, keyOf_ok rv2 e3, rfl⟩, ?_⟩
            rcases h4.get k with ⟨n1, n2⟩ | ⟨d, v, n1, n2, n3⟩
            · rw [n1] at q3
              rw [n2]
              exact q3 am3 _ H3 .refl rs3 rv3
            · rw [n1] at q3
              rw [n2]
              exact q3 am3 _ H3 .refl rs3 n3⟩
theorem qn_sortD (hc : X.calm = true) (hg : Gl X "sorted") (hm : X.mg "sorted" = none) (ha : QE cl W X a f)
    (h0 : starEach [a] X.env = (false, eval a X.env) :: starEach [] X.env := by rfl) (hpl : (backTo pos (starEach [] X.env)).any (·.1) = false := by rfl) :
    QN cl W X (.Call (.Name "sorted" p) [a] [] pos) (nSortD f) :=
  (pe_callB (call_sortedDX hc) hg hm (by decide +kernel) (pa_cons ha pa_nil h0) (by decide) (by decide) h0 hpl).imp fun σ H Q ⟨am, e, S, rs, re, q0⟩ =>
    ⟨am, e, S, rs, re, (PostN.step q0).imp fun v H1 ⟨am1, S1, d, _, g1, rs1, rv, q1⟩ => by
      cases e1 : (dcOf S1 d).bind keysI with
      | none => rw [e1] at q1; exact q1.elim
      | some ns =>
        rw [e1] at q1
        simp only at q1
        by_cases hl : ns.length < 4000
        · rw [if_pos hl] at q1
          cases e2 : dcOf S1 d with
          | none => rw [e2] at e1; cases e1
          | some xs =>
            rw [e2, Option.bind_some] at e1
            obtain ⟨l, us, ev, h2, h3⟩ := dcOf_ok rs1 rv e2
            subst ev
            refine ⟨l, us, ns, rfl, .inl h2, keysI_ok h3 e1, by omega, fun ns' p' hp hs hp' => ?_⟩
            have en : ns' = sortI ns := uniq_le hs (pw_sortI ns) (hp.trans (perm_sortI ns).symm)
            subst en
            exact PostN.laid q1 g1 rs1 hp' ⟨_, upd_same, VRs.ints_map _⟩
        · rw [if_neg hl] at q1
          exact q1.elim⟩
/-- by what it is -/
noncomputable def nSort (f : Ev D) : Ev DO := fun e S => match f e S with
  | .ok d S1 => if (dcOf S1 d).isSome = true then nSortD f e S else if ((lsOf S1 d).bind intsL).isSome = true then nSortI f e S else nSortP f e S
  | _ => nSortI f e S
theorem nSort_is (f : Ev D) (e : En) (S : Sto) : nSort f e S = nSortD f e S ∨ nSort f e S = nSortI f e S ∨ nSort f e S = nSortP f e S := by
  unfold nSort
  split
  · split
    · exact .inl rfl
    · split
      · exact .inr (.inl rfl)
      · exact .inr (.inr rfl)
  · exact .inr (.inl rfl)
theorem qn_sort (hc : X.calm = true) (hg : Gl X "sorted") (hm : X.mg "sorted" = none) (ha : QE cl W X a f)
    (h0 : starEach [a] X.env = (false, eval a X.env) :: starEach [] X.env := by rfl) (hpl : (backTo pos (starEach [] X.env)).any (·.1) = false := by rfl) :
    QN cl W X (.Call (.Name "sorted" p) [a] [] pos) (nSort f) := ⟨fun pins s σ H Q I h => by
  obtain ⟨am, e, S, rs, re, q0⟩ := h
  rcases nSort_is f e S with q | q | q
  · exact (qn_sortD hc hg hm ha h0 hpl).run pins s σ H Q I ⟨am, e, S, rs, re, by rw [← q]; exact q0⟩
  · exact (qn_sortI hg hm ha h0 hpl).run pins s σ H Q I ⟨am, e, S, rs, re, by rw [← q]; exact q0⟩
  · exact (qn_sortP hg hm ha h0 hpl).run pins s σ H Q I ⟨am, e, S, rs, re, by rw [← q]; exact q0⟩⟩
end
section
variable {f g h : Ev D} {e : En} {S : Sto}
@[simp] theorem ap_Get : eGet f g h e S = (f e S).bind fun o S => if (dcOf S o).isSome = true then (g e S).bind fun i S => (h e S).bind fun z S => getD2 o i z S else .bad := id rfl
theorem getD2_ref {k : Nat} {kvs : List (Key × D)} {i : Int} {z : D} (h : S[k]? = some (.dct kvs)) : getD2 (.ref k) (.int i) z S = .ok ((getK kvs (.inl i)).getD z) S := by
  simp [getD2, dcOf, h, keyOf]
theorem nSort_dct {d : D} {kvs : List (Key × D)} {ns : List Int} (hf : f e S = .ok d S) (h1 : dcOf S d = some kvs) (h2 : keysI kvs = some ns) (h3 : ns.length < 4000) : nSort f e S = .ok (.lst ((sortI ns).map D.int)) S := by
  unfold nSort nSortD
  rw [hf]
  simp only [h1, Option.isSome_some, if_true, Res.bind_ok, Option.bind_some, h2]
  rw [if_pos h3]
theorem nSort_ints {d : D} {ns : List Int} (hf : f e S = .ok d S) (h0 : dcOf S d = none) (h1 : lsOf S d = some (ns.map D.int)) : nSort f e S = .ok (.lst ((sortI ns).map D.int)) S := by
  unfold nSort nSortI
  rw [hf]
  simp [h0, h1]
end
noncomputable def putAll : List Nat → List D → En → Option En
  | [], [], e => some e
  | i :: is, d :: ds, e => putAll is ds (e.set i (some d))
  | _, _, _ => none
noncomputable def sPar (is : List Nat) (fs : List (Ev D)) : Stm := fun e S => (eArgs fs e S).stm e fun ds S => match putAll is ds e with
  | some e' => .next e' S
  | none => .bad
section
variable {cl : Str → Addr} {W : WX} {X : Cx} {a b c : Expr} {f g h : Ev D} {x y z : Str} {px py pz pt pt2 pos : Pos} {kt k2 : Nat}
@[simp] theorem ap_Par {is : List Nat} {fs : List (Ev D)} {e : En} {S : Sto} : sPar is fs e S = (eArgs fs e S).stm e fun ds S => match putAll is ds e with
  | some e' => .next e' S
  | none => .bad := id rfl
@[simp] theorem putAll_nil {e : En} : putAll [] [] e = some e := id rfl
@[simp] theorem putAll_cons {i : Nat} {is : List Nat} {d : D} {ds : List D} {e : En} : putAll (i :: is) (d :: ds) e = putAll is ds (e.set i (some d)) := id rfl
end
end Pu
set_option Elab.async false
set_option linter.all false
set_option maxRecDepth 100000
namespace Pu
open PySem PySem.Spec PyProof.Rows L2
theorem FitMul.ok {i j : Int} (h : FitMul i j) : IntMulOk i j := by
  rcases h with h | h | h
  · exact CMul.ok (.inl h)
  · exact CMul.ok (.inr h)
  · exact CMulX.ok h
end Pu
set_option Elab.async false
set_option linter.all false
set_option maxRecDepth 100000
namespace Pu
open PySem PySem.Spec PyProof.Rows L2
noncomputable def enumL (xs : List D) : List D := (List.range xs.length).map fun i => .tpi [.int (i : Nat), xs[i]?.getD .non]
section
variable {cl : Str → Addr} {W : WX} {X : Cx} {a b : Expr} {f g : Ev D} {p pos tpos : Pos} {elts : List Expr} {kk : Nat}
noncomputable def stL : D → Option (List D)
  | .lst xs => some xs
  | .fls xs => some xs
  | _ => none
end
end Pu
set_option Elab.async false
set_option linter.all false
set_option maxRecDepth 100000
set_option maxHeartbeats 4000000
namespace Pu
open PySem PySem.Spec PyProof.Rows L2
end Pu
set_option Elab.async false
set_option linter.all false
set_option maxRecDepth 100000
namespace Pu
open PySem PySem.Spec PyProof.Rows L2
noncomputable def eBits (f : Ev D) : Ev D := fun e S => (f e S).bind fun d S => match d with
  | .int i => .ok (.int (Builtin.Int.intBits i : Nat)) S
  | _ => .bad
noncomputable instance (a b : Int) : Decidable (RgOk a b) := by unfold RgOk; infer_instance
@[simp] theorem ap_bits : eBits f e S = (f e S).bind fun d S => match d with
  | .int i => .ok (.int (Builtin.Int.intBits i : Nat)) S
  | _ => .bad := id rfl
end Pu
set_option Elab.async false
set_option linter.all false
set_option maxRecDepth 100000
set_option maxHeartbeats 4000000
namespace Pu
open PySem PySem.Spec PyProof.Rows L2
/-- enumerate of data that stand still -/
noncomputable def srcEA (d : D) (S : Sto) : Res Src := match d with
  | .lst xs => .ok (.tmp (enumL xs)) S
  | .fls xs => .ok (.tmp (enumL xs)) S
  | .tup xs => .ok (.tmp (enumL xs)) S
  | _ => .bad
noncomputable def iEA (f : Ev D) : Ev Src := fun e S => (f e S).bind srcEA
@[simp] theorem ap_iEA {f : Ev D} {e : En} {S : Sto} : iEA f e S = (f e S).bind srcEA := id rfl
end Pu
set_option Elab.async false
set_option linter.all false
set_option maxRecDepth 100000
namespace Pu
open PySem PySem.Spec PyProof.Rows L2
end Pu
set_option Elab.async false
set_option linter.all false
set_option maxRecDepth 100000
namespace Pu
open PySem PySem.Spec PyProof.Rows L2
end Pu
set_option Elab.async false
set_option linter.all false
set_option maxRecDepth 100000
namespace Pu
open PySem PySem.Spec PyProof.Rows L2
end Pu
set_option Elab.async false
set_option linter.all false
set_option maxRecDepth 100000
namespace Pu
open PySem PySem.Spec PyProof.Rows L2
/-- an own class of refusals -/
structure ClsE (K : PySem.W.Frag) (mg : Str → Option Value) (cl : Str → Addr) (x : Str) : Prop where
  g : mg x = some (.ref (cl x))
  e : PySem.W.excIn K (cl x) [.type "ValueError", .type "Exception", .type "BaseException", .type "object"] "ValueError.__new__" = true
  k : PySem.W.keepIn K (.ref (cl x)) = true
  b : PySem.W.subIn K (.ref (cl x)) (.type "BaseException") = some true
  t : PySem.W.typeIn K (.ref (cl x)) = some (.type "type")
  d : PySem.W.hasDictIn K (cl x) = true
/-- the classes stand where the names of the text say -/
noncomputable def clK (K : PySem.W.Frag) : Str → Addr := fun x => match PySem.W.nsIn K mainGlobals x with
  | some (some (.ref f)) => f
  | _ => 0
theorem clK_of {K : PySem.W.Frag} {x : Str} {f : Addr} (a : PySem.W.nsIn K mainGlobals x = some (some (.ref f))) : clK K x = f := by
  unfold clK
  rw [a]
theorem clsE_mk {K : PySem.W.Frag} {h : Heap} {mg : Str → Option Value} {x : Str} {f : Addr} (X : K.In h) (G : h.Ns mainGlobals mg) (a : PySem.W.nsIn K mainGlobals x = some (some (.ref f)))
    (e : PySem.W.excIn K f [.type "ValueError", .type "Exception", .type "BaseException", .type "object"] "ValueError.__new__" = true) (k : PySem.W.keepIn K (.ref f) = true) (b : PySem.W.subIn K (.ref f) (.type "BaseException") = some true) (t : PySem.W.typeIn K (.ref f) = some (.type "type")) (d : PySem.W.hasDictIn K f = true) : ClsE K mg (clK K) x := by
  have q := clK_of a
  exact ⟨by rw [q]; exact PySem.W.mg_of X G a, by rw [q]; exact e, by rw [q]; exact k, by rw [q]; exact b, by rw [q]; exact t, by rw [q]; exact d⟩
theorem takesN {X : Cx} : L2N.Takes X (fun _ _ _ _ => False) := fun _ _ x => by
  obtain ⟨_, _, _, _, _, _, _, _, _, _, _, _, _, _, _, _, z⟩ := x
  exact z.elim
noncomputable def sRaise (x : Str) : Stm := fun e S => .exc x e S
section
variable {cl : Str → Addr} {W : WX} {X : Cx}
theorem qs_raise {x m : Str} {j} {p p2 pos pos' : Pos} (hc : X.calm = true) (tk : L2N.Takes X W) (E : ClsE X.K X.mg cl x) (hg : Gl X x) (hdb : (x == ("__debug__" : Str)) = false := by decide) :
    QS cl W X (.Raise (some (.Call (.Name x p) [.Constant (.str m) j p2] [] pos)) none pos') (sRaise x) :=
  (L2N.ps_raise hc tk (L2N.pmk_own PySem.F.excBase_ValueError E.e E.g E.k (L2.raises_own E.b E.t) hg hdb)).imp fun D σ H ⟨am, e, S, rs, re, p⟩ => p am σ H .refl rs re
end
noncomputable def noW : WX := fun _ _ _ _ => False
structure FnE (P : Program) (w : World) (K : PySem.W.Frag) (mg : Str → Option Value) (base : Heap) (k : Nat) (f : Addr) (fd : FuncData) (ps : List Str) (cl : Str → Addr) (c : Str) (v : Bool) : Prop where
  run : ∀ (A : Around) (outer : List PySem.Env) (s : Shared) (H : Hp) (args : Args) (us : List Value) (Q : VK) (E : XK) (p : Addr × Obj), L2H.RoomH k A → L2H.Hot1 A p → L2H.PinOk outer H s p → Env0 P w K mg base A outer s H → BindsTo s fd args (ps.zip us) → Vals [.ref p.1] us → L2N.Zn (.ref (cl c)) none p.2 →
    (∀ H', (∀ b o, H b = some o → H' b = some o) → Q (.bl v) H') → codeAny (model P w) A (.call (.ref f) args) (CR (L2N.CX P w) outer P w H s Q E) s
structure DefE (P : Program) (w : World) (K : PySem.W.Frag) (mg : Str → Option Value) (base : Heap) (cl : Str → Addr) (x : Str) (k : Nat) (ps : List Str) (c : Str) (v : Bool) : Prop where
  ex : ∃ f fd, FnE P w K mg base k f fd ps cl c v ∧ mg x = some (.ref f) ∧ PySem.W.keepIn K (.ref f) = true ∧ ∀ us : List Value, us.length = ps.length → bindArgs fd ⟨us, []⟩ = pure (ps.zip us)
section
variable {P : Program} {w : World} {K : PySem.W.Frag} {mg : Str → Option Value} {base : Heap} {cl : Str → Addr}
theorem DefE.mono {x : Str} {k j : Nat} {ps : List Str} {c : Str} {v : Bool} (d : DefE P w K mg base cl x k ps c v) (h : k ≤ j) : DefE P w K mg base cl x j ps c v :=
  let ⟨f, fd, a, b⟩ := d.ex
  ⟨f, fd, ⟨fun A outer s H args us Q E p hr => a.run A outer s H args us Q E p (hr.mono h)⟩, b⟩
end
section
variable {cl : Str → Addr} {X : Cx} {i k : Nat} {a : Addr} {oe : Obj} {c x y n : Str} {q p1 pos : Pos} {v : Bool} {ps : List Str}
theorem kc_nil {P : Str × Bool → Prop} : ∀ p ∈ ([] : List (Str × Bool)), P p := fun p h => absurd h List.not_mem_nil
theorem kc_cons {P : Str × Bool → Prop} {q : Str × Bool} {l : List (Str × Bool)} (h : P q) (t : ∀ p ∈ l, P p) : ∀ p ∈ q :: l, P p := fun p hp => by
  rcases List.mem_cons.mp hp with e | e
  · rw [e]; exact h
  · exact t p e
noncomputable abbrev SpE (K : PySem.W.Frag) (n : Nat) (F : List D → Sto → Res D) : Sp := SpD K (clK K) n F
theorem roomH_mark {A : Around} {v : Option Value} {k : Nat} (r : Room k A) : L2H.RoomH k (A.mark v) := ⟨r.dp, r.un⟩
end
end Pu
set_option Elab.async false
set_option linter.all false
set_option maxRecDepth 100000
set_option maxHeartbeats 2000000
namespace PySem
open PySem.Calls HotX
end PySem
namespace Pu
open PySem PySem.Spec PyProof.Rows L2
end Pu
set_option Elab.async false
set_option linter.all false
set_option maxRecDepth 100000
namespace Pu
open PySem PySem.Spec PyProof.Rows L2
end Pu
set_option Elab.async false
set_option linter.all false
set_option maxRecDepth 100000
namespace Pu
open PySem PySem.Spec PyProof.Rows L2
/-- what x[::-1] is, by values -/
noncomputable def SlB (X : Cx) (r : V → Hp → VK → Prop) : Prop :=
  ∀ (pins : List (Addr × Obj)) (s : Shared) (σ : L2.St) (H : Hp) (x : V) (v vk : Value) (sl : Addr) (Q : VK), Inv X pins σ H s → RelV x v → s.heap.IsSliceOf sl .none .none vk → IsPart vk (some (-1)) → r x H Q →
    ∃ T id, typeLookup (.type T) "__getitem__" = pure (some (.builtin id)) ∧ s.TypeIs v T ∧ wpAny (model X.prog X.w) X.A (getItem v (.ref sl)) (EP X pins σ Q) X.xe s
section
variable {X : Cx}
theorem SlB.or {r r' : V → Hp → VK → Prop} (h : SlB X r) (h' : SlB X r') : SlB X (fun x H Q => r x H Q ∨ r' x H Q) := by
  intro pins s σ H x v vk sl Q I rx hs pk q
  rcases q with q | q
  · exact h pins s σ H x v vk sl Q I rx hs pk q
  · exact h' pins s σ H x v vk sl Q I rx hs pk q
end
section
variable {cl : Str → Addr} {W : WX} {X : Cx} {a : Expr} {f : Ev D} {pos : Pos}
noncomputable def bkD (d : D) (S : Sto) : Res D := match d with
  | .tup xs => .ok (.tup xs.reverse) S
  | d => match lsOf S d with
    | some xs => .ok (.lst xs.reverse) S
    | none => .bad
@[simp] theorem bkD_tup {xs : List D} {S : Sto} : bkD (.tup xs) S = .ok (.tup xs.reverse) S := id rfl
@[simp] theorem bkD_lst {xs : List D} {S : Sto} : bkD (.lst xs) S = .ok (.lst xs.reverse) S := id rfl
end
end Pu
set_option Elab.async false
set_option linter.all false
set_option maxRecDepth 100000
namespace Pu
open PySem PySem.Spec PyProof.Rows L2
noncomputable def sTry0 (ks : List (Str × Bool)) (u : Stm) (hd : Str → Stm) : Stm := fun e S => match u e S with
  | .exc c e1 S1 => match ks.lookup c with
    | some true => (match hd c e1 S1 with
      | .exc _ _ _ => .bad
      | r => r)
    | some false => .exc c e1 S1
    | none => .bad
  | r => r
section
variable {cl : Str → Addr} {W : WX} {X : Cx}
theorem qs_try0 {ks : List (Str × Bool)} {x : Str} {c : Value} {body suite : List Stmt} {b₀ : Stmt} {np pos pos' : Pos} {u : Stm} {hd : Str → Stm} (hs : X.stack = X.env :: X.outer) (hf : X.env.frame = some X.env.locals) (hc : Names X x c) (tk : L2N.Takes X W)
    (hb : ∀ (W' : WX) (pn : List (Addr × Obj)) (xe : Value → Shared → Prop), L2N.Takes (X.tr pn xe) W' → PassesOwn (model X.prog X.w) X.A X.env xe → QB cl W' (X.tr pn xe) body u)
    (hks0 : ∀ p ∈ ks, PySem.W.exmOne X.K (.ref (cl p.1)) c = some p.2)
    (hsu0 : ∀ p ∈ ks, p.2 = true → ∀ (a : Addr) (oe : Obj) (pn : List (Addr × Obj)), QB cl noW (X.suite a ((a, oe) :: pn)) (b₀ :: suite) (hd p.1)) :
    QS cl W X (.Try body [.ExceptHandler (some (.Name x np)) none (b₀ :: suite) pos'] [] [] pos) (sTry0 ks u hd) := by
  have hks : ∀ y b, ks.lookup y = some b → PySem.W.exmOne X.K (.ref (cl y)) c = some b := fun y b h => hks0 (y, b) (mem_of_lookup h)
  refine (L2N.ps_try_many (tb := fun W' => TDs X.K cl W' u) (l := [(c, fun a cls d D σ H => ∃ y, cls = .ref (cl y) ∧ ks.lookup y = some true ∧ TDs X.K cl noW (hd y) D σ H)]) (Wout := W) hs hf tk hb (.cons hc (fun a oe cls d pn hz hfl => ⟨fun pins s σ H D I h => ?_⟩) .nil)).imp ?_
  · obtain ⟨y, rfl, hl, h⟩ := h
    exact (hsu0 (y, true) (mem_of_lookup hl) rfl a oe pn).run pins s σ H D I h
  · intro D σ H ⟨am, e, S, rs, re, p⟩
    refine ⟨am, e, S, rs, re, ?_⟩
    unfold sTry0 at p
    cases q : u e S with
    | next e1 S1 => rw [q] at p; exact p
    | ret d S1 => rw [q] at p; exact p
    | brk e1 S1 => rw [q] at p; exact p
    | cnt e1 S1 => rw [q] at p; exact p
    | bad => rw [q] at p; exact p.elim
    | exc y e1 S1 =>
      rw [q] at p
      simp only at p
      intro am' σ' H' g rs' re'
      cases hl : ks.lookup y with
      | none => rw [hl] at p; exact p.elim
      | some b =>
        rw [hl] at p
        refine ⟨b, hks y b hl, fun hb1 a na => ?_, fun hb0 => ?_⟩
        · subst hb1
          simp only at p
          refine ⟨y, rfl, hl, am', e1, S1, rs', re', ?_⟩
          cases q2 : hd y e1 S1 with
          | next e2 S2 =>
            rw [q2] at p
            exact fun am2 σ2 H2 g2 rs2 re2 => p am2 _ H2 (g.trans g2) rs2 re2
          | brk e2 S2 =>
            rw [q2] at p
            exact fun am2 σ2 H2 g2 rs2 re2 => p am2 _ H2 (g.trans g2) rs2 re2
          | cnt e2 S2 =>
            rw [q2] at p
            exact fun am2 σ2 H2 g2 rs2 re2 => p am2 _ H2 (g.trans g2) rs2 re2
          | ret d S2 =>
            rw [q2] at p
            exact fun am2 v2 H2 g2 rs2 rv2 => p am2 v2 H2 (g.trans g2) rs2 rv2
          | exc y2 e2 S2 => rw [q2] at p; exact p.elim
          | bad => rw [q2] at p; exact p.elim
        · subst hb0
          exact p am' σ' H' g rs' re'
end
end Pu
set_option Elab.async false
set_option linter.all false
set_option maxRecDepth 100000
namespace Pu
open PySem PySem.Spec PyProof.Rows L2
section
variable {X : Cx} {pins : List (Addr × Obj)} {σ : L2.St} {H : Hp} {s : Shared}
theorem TupAt.plain {am : AM} {a : Addr} {vs : List V} (J : Inv X pins σ H s) (h : TupAt X.K am H a vs) : ∃ its : List Value, Vals vs its ∧ vs.length ≤ sizeLine ∧ PlainSeq "tuple" s.heap a its.toArray := by
  rcases h with ⟨o, h, d, _⟩ | ⟨o, its, n, hk, hc, hd, hs, z, r⟩
  · obtain ⟨e, z, its, r, o', e', c, n, t⟩ := J.hok a _ h
    rw [e] at e'
    cases e'
    exact ⟨its, r, z, o, n, e, c, d, t⟩
  · refine ⟨its.toList, r, ?_, o, n, J.kIn a o hk, hc, hd, by simpa using hs⟩
    have := r.length
    simp only [Array.length_toList] at this
    omega
theorem prs_of (J : Inv X pins σ H s) : ∀ {ps : List Addr} {kvs : List (Key × V)}, Paired (fun p kv => SqT X.K H p [kV kv.1, kv.2]) ps kvs →
    ∃ (prs : List (Key × Value)) (vv : List (Value × Value)), KV kvs prs ∧ prs.length = ps.length ∧ vv.length = ps.length ∧
      ∀ (j : Nat) (k v : Value), vv[j]? = some (k, v) → (∃ b, ps[j]? = some b ∧ IsTup s.heap b #[k, v]) ∧ ∃ q, prs[j]? = some (q, v) ∧ (mixKind X.prog X.w).is q k = true
  | _, _, .nil => ⟨[], [], .nil, rfl, rfl, fun j k v e => by simp at e⟩
  | _, _, .cons (a := p) (b := kv) h t => by
    obtain ⟨prs, vv, rel, l1, l2, hv⟩ := prs_of J t
    obtain ⟨its, rv, ht, _⟩ := J.tuple h
    cases rv with
    | cons r1 rv =>
      cases rv with
      | cons r2 rv =>
        cases rv
        rename_i u y
        refine ⟨(kv.1, y) :: prs, (u, y) :: vv, .cons ⟨rfl, r2⟩ rel, by simp [l1], by simp [l2], fun j k v e => ?_⟩
        cases j with
        | zero =>
          simp at e
          obtain ⟨rfl, rfl⟩ := e
          exact ⟨⟨p, rfl, ht⟩, kv.1, rfl, kV_is (P := X.prog) (w := X.w) r1⟩
        | succ j => exact hv j k v (by simpa using e)
noncomputable def rDctP (K : PySem.W.Frag) : List V → Hp → VK → Prop := fun xs H Q => ∃ (am : AM) (a : Addr) (ps : List Addr) (kvs : List (Key × V)), xs = [V.ref a] ∧ TupAt K am H a (ps.map V.ref) ∧ Paired (fun p kv => SqT K H p [kV kv.1, kv.2]) ps kvs ∧
  ∀ p, H p = none → Q (.ref p) (upd H p (.dK (mergeK [] kvs)))
theorem cr_dctP (hc : X.calm = true) : CallR X (.type "dict") (rDctP X.K) := by
  intro pins s σ H xs us Q J r h
  obtain ⟨am, a, ps, kvs, rfl, ht, hp, q⟩ := h
  rw [Vals.ref1 r]
  obtain ⟨its, rv, z, pl⟩ := ht.plain J
  have ei := refs_at rv
  subst ei
  obtain ⟨prs, vv, rel, l1, l2, hv⟩ := prs_of J hp
  rw [List.length_map] at z
  refine PySem.call_dict_pairs (knd := mixKind X.prog X.w) (kvs := prs) (PairArg.tuple a (ps.map Value.ref).toArray (fun j => (ps[j]?).getD 0) vv) (J.ok.hd hc) ⟨pl, by simp [l2], fun j k v e => ?_⟩ ⟨by rw [l1, l2], fun j k v e => ?_⟩ (by rw [l2]; exact z) fun h' tk hd' hk => ?_
  · obtain ⟨⟨b, e1, e2⟩, _⟩ := hv j k v e
    exact ⟨by simp [e1], .inl (by simp only [e1, Option.getD_some]; exact e2)⟩
  · obtain ⟨_, q, e1, e2⟩ := hv j k v e
    exact ⟨q, e1, e2⟩
  · have hm : (s.heap.objs.size == sysModules) = false := beq_eq_false_iff_ne.mpr (Nat.ne_of_gt J.big)
    have hl : (mergeK [] kvs).length ≤ sizeLine := by
      have := length_mergeK kvs []
      have := rel.length
      rw [List.length_nil] at *
      omega
    exact ⟨.ref _, _, J.laid (t' := tk) (o := .dK (mergeK [] kvs)) (fun b o e => hk b o (fun z => nomatch z) e) (Nat.le_refl _) ⟨hl, hm, _, KV.merge rel .nil, hd'⟩, rfl, q _ (J.hok.fresh (Nat.le_refl _))⟩
end
noncomputable def prsK : List D → Option (List (Key × D))
  | [] => some []
  | .tup [k, v] :: xs => (keyOf k).bind fun q => (prsK xs).map ((q, v) :: ·)
  | _ :: _ => none
noncomputable def mrgD (kvs more : List (Key × D)) : List (Key × D) := more.foldl (fun acc kv => putD acc kv.1 kv.2) kvs
noncomputable def dctP (d : D) (S : Sto) : Res DO := match d with
  | .tup xs => match prsK xs with
    | some kvs => .ok (.dct (mrgD [] kvs)) S
    | none => .bad
  | _ => .bad
noncomputable def nDctP (f : Ev D) : Ev DO := fun e S => (f e S).bind dctP
section
variable {K : PySem.W.Frag} {am : AM} {H : Hp}
theorem prsK_ok : ∀ {xs : List D} {vs : List V} {ks : List (Key × D)}, VRs K am H xs vs → prsK xs = some ks → ∃ (ps : List Addr) (kvs : List (Key × V)), vs = ps.map V.ref ∧ Paired (fun p kv => SqT K H p [kV kv.1, kv.2]) ps kvs ∧ VRk K am H ks kvs
  | _, _, _, .nil, e => by cases e; exact ⟨[], [], rfl, .nil, .nil⟩
  | _, _, ks, .cons (ds := ds) h t, e => by
    cases h with
    | @tup a us es h1 h2 =>
      cases h2 with
      | nil => simp [prsK] at e
      | cons r1 h2 =>
        cases h2 with
        | nil => simp [prsK] at e
        | cons r2 h2 =>
          cases h2 with
          | cons _ _ => simp [prsK] at e
          | nil =>
            simp only [prsK] at e
            rename_i d1 v1 d2 v2
            cases e1 : keyOf d1 with
            | none => rw [e1] at e; cases e
            | some q =>
              rw [e1, Option.bind_some] at e
              cases e2 : prsK ds with
              | none => rw [e2] at e; cases e
              | some ks' =>
                rw [e2] at e
                cases e
                obtain ⟨ps, kvs, ev, hp, hk⟩ := prsK_ok t e2
                subst ev
                have e3 := keyOf_ok r1 e1
                subst e3
                exact ⟨a :: ps, (q, v2) :: kvs, rfl, .cons h1.seq hp, .cons r2 hk⟩
    | _ => simp [prsK] at e
theorem mrg_ok : ∀ {ms : List (Key × D)} {mv : List (Key × V)} {ks : List (Key × D)} {kv : List (Key × V)}, VRk K am H ms mv → VRk K am H ks kv → VRk K am H (mrgD ks ms) (mergeK kv mv)
  | _, _, _, _, .nil, h => h
  | _, _, ks, kv, .cons (k := k) (d := d) (v := v) (ds := ds) (vs := vs) h t, h' => by
    show VRk K am H (mrgD (putD ks k d) ds) (mergeK (putK kv k v) vs)
    exact mrg_ok t (h'.put _ h)
end
section
variable {cl : Str → Addr} {W : WX} {X : Cx} {a b : Expr} {f g : Ev D} {p pos apos cpos : Pos}
theorem qn_dctP (hc : X.calm = true) (hg : Gl X "dict") (hm : X.mg "dict" = none) (ha : QE cl W X a f)
    (h0 : starEach [a] X.env = (false, eval a X.env) :: starEach [] X.env := by rfl) (hpl : (backTo pos (starEach [] X.env)).any (·.1) = false := by rfl) :
    QN cl W X (.Call (.Name "dict" p) [a] [] pos) (nDctP f) :=
  (pe_callTy (cr_dctP hc) hg hm (by decide +kernel) (pa_cons ha pa_nil h0) (by decide) (by decide) h0 hpl).imp fun σ H Q ⟨am, e, S, rs, re, q0⟩ =>
    ⟨am, e, S, rs, re, (PostN.step q0).imp fun v H1 ⟨am1, S1, d, _, g1, rs1, rv, q1⟩ => by
      cases rv with
      | @tup l us xs h1 h2 =>
        simp only [dctP] at q1
        cases e1 : prsK xs with
        | none => rw [e1] at q1; exact q1.elim
        | some ks =>
          rw [e1] at q1
          obtain ⟨ps, kvs, ev, hp, hk⟩ := prsK_ok h2 e1
          subst ev
          refine ⟨am1, l, ps, kvs, rfl, h1, hp, fun p' hp' => PostN.laid q1 g1 rs1 hp' ⟨_, upd_same, ?_⟩⟩
          exact (mrg_ok hk .nil).mono (Grow.resv hp')
      | _ => exact q1.elim⟩
end
section
variable {f g : Ev D} {e : En} {S : Sto}
theorem ap_nDctP : nDctP f e S = (f e S).bind dctP := id rfl
end
end Pu
set_option Elab.async false
set_option linter.all false
set_option maxRecDepth 100000
set_option maxHeartbeats 1000000
namespace Pu
open PySem PySem.Spec PyProof.Rows L2
open PySem.Sem (wp)
end Pu
set_option Elab.async false
set_option linter.all false
set_option maxRecDepth 100000
namespace Pu
open PySem PySem.Spec PyProof.Rows L2
section
variable {cl : Str → Addr} {X : Cx} {i : Nat} {a : Addr} {oe : Obj} {c x y : Str} {q p1 p2 pos : Pos} {b b1 b2 v : Bool}
noncomputable def tHT (i : Nat) (a : Addr) (v : Bool) : TT := fun σ H Q => σ[i]? = some (some (.ref a)) ∧ ∀ H', (∀ b o, H b = some o → H' b = some o) → Q v H'
noncomputable abbrev HT (X : Cx) (i : Nat) (a : Addr) (t : Expr) (v : Bool) : Prop := PT X t (tHT i a v)
end
end Pu
set_option Elab.async false
set_option linter.all false
set_option maxRecDepth 100000
set_option maxHeartbeats 1000000
namespace Pu
open PySem PySem.Spec PyProof.Rows L2
end Pu
set_option Elab.async false
set_option linter.all false
set_option maxRecDepth 100000
set_option maxHeartbeats 1000000
namespace Pu
open PySem PySem.Spec PyProof.Rows L2
noncomputable def signs (x : Str) : List D := x.cps.toList.map fun c => .str ⟨#[c]⟩
noncomputable def srcTx (d : D) (S : Sto) : Res Src := match d with
  | .str x => .ok (.tmp (signs x)) S
  | _ => .bad
noncomputable def iTx (f : Ev D) : Ev Src := fun e S => (f e S).bind srcTx
noncomputable def srcRv (ds : List D) (S : Sto) : Res Src := match ds with
  | [.lst xs] => .ok (.tmp xs.reverse) S
  | [.fls xs] => .ok (.tmp xs.reverse) S
  | _ => .bad
noncomputable def iRv (f : Ev D) : Ev Src := fun e S => (eArgs [f] e S).bind srcRv
section
variable {dead vs : List Nat} {tg : Tg} {f g : Ev D} {a : Stm} {e : En} {S : Sto} {xs ys : List D} {t : Ev Bool} {x : Str}
@[simp] theorem ap_iTx : iTx f e S = (f e S).bind srcTx := id rfl
@[simp] theorem ap_iRv : iRv f e S = (eArgs [f] e S).bind srcRv := id rfl
@[simp] theorem srcTx_str : srcTx (.str x) S = .ok (.tmp (signs x)) S := id rfl
@[simp] theorem srcRv_lst : srcRv [.lst xs] S = .ok (.tmp xs.reverse) S := id rfl
@[simp] theorem srcRv_fls : srcRv [.fls xs] S = .ok (.tmp xs.reverse) S := id rfl
end
end Pu
set_option Elab.async false
set_option linter.all false
set_option maxRecDepth 100000
set_option maxHeartbeats 1000000
namespace L2
open PySem PySem.Spec PyProof.Rows
section
variable {X : Cx} {CX : CXT} {k : Nat} {f C : Addr} {fd : FuncData} {ps : List Str} {sp : Sp} {E : St → XK} {x m : Str} {p pos apos : Pos} {e o : Expr} {es : List Expr} {ta : TE} {t : TA}
noncomputable def tMethSg (C : Addr) (m : Str) (sp : Sp) (E : St → XK) (ta : TE) (t : TA) : TE := fun σ H Q => ta σ H fun x H1 => ∃ a dx fs, x = .ref a ∧ H1 a = some (.ins C dx fs) ∧ fs.lookup m = none ∧
  t σ H1 fun vs H2 => sp (x :: vs) H2 Q (E σ)
noncomputable def tMakeSg (C : Addr) (sp : Sp) (E : St → XK) (t : TA) : TE := fun σ H Q => t σ H fun vs H1 => ∀ x dx, H1 x = none → H1 dx = none → dx ≠ x →
  sp (.ref x :: vs) (upd (upd H1 dx (.own x)) x (.ins C dx [])) (fun v H2 => v = .non ∧ Q (.ref x) H2) (E σ)
theorem pe_methSg {pl : Sem Bool} (he : PE X o ta) (c : Cls X.K C) (hm : Meth X.K C m f) (F : FnOk X.prog X.w X.K X.mg X.base CX k f fd ps sp) (hr : Room k X.A) (hb : Binds X.K fd ps []) (hx : ∀ σ, PassesAt CX X σ (E σ)) (ha : PA X (e :: es) t)
    (hst : starEach (e :: es) X.env = (false, eval e X.env) :: starEach es X.env := by rfl) (hpl : (backTo pos (starEach es X.env)).any (·.1) = false := by rfl)
    (ht : eval (.Call (.Attribute o m apos) (e :: es) [] pos) X.env = (do
      let ov ← eval o X.env
      standAt apos.atName
      let (f, first) ← holding [ov] (getMethod ov m pl)
      callWith pos f first (backTo pos (starEach (e :: es) X.env)) (backToKw pos (keywordEach [] X.env))) := by rfl) :
    PE X (.Call (.Attribute o m apos) (e :: es) [] pos) (tMethSg C m sp E ta t) := by
  refine ⟨fun pins s σ H Q I h => ?_⟩
  refine PySem.W.methodCall_KW (pl := pl) (thn (he.run pins s σ H _ I h) fun u s1 ⟨x, H1, I1, rx, a, dx, fs, ex, ea, l, q⟩ => ?_) ht
  subst ex
  obtain rfl : u = Value.ref a := rx
  refine getmeth_ok I1 ea c hm l ?_
  refine PySem.W.callWith_K (first := [.ref a]) (h₀ := X.base) I.ok.mod.kin hm.kp (thn (ha.run pos pins s1 σ H1 _ I1 q) fun us s2 ⟨vs, H2, I2, r, q2⟩ => ⟨I2.kIn, ?_⟩) hst hpl
  exact run_fnS (us := .ref a :: us) (vs := .ref a :: vs) F hr hb (hx σ) I2 (.cons rfl r) q2
theorem pe_meth0Sg {pl : Sem Bool} (he : PE X o ta) (c : Cls X.K C) (hm : Meth X.K C m f) (F : FnOk X.prog X.w X.K X.mg X.base CX k f fd ps sp) (hr : Room k X.A) (hb : Binds X.K fd ps []) (hx : ∀ σ, PassesAt CX X σ (E σ))
    (ht : eval (.Call (.Attribute o m apos) [] [] pos) X.env = (do
      let ov ← eval o X.env
      standAt apos.atName
      let (f, first) ← holding [ov] (getMethod ov m pl)
      callWith pos f first (backTo pos (starEach [] X.env)) (backToKw pos (keywordEach [] X.env))) := by rfl) :
    PE X (.Call (.Attribute o m apos) [] [] pos) (tMethSg C m sp E ta tNil) := by
  refine ⟨fun pins s σ H Q I h => ?_⟩
  refine PySem.W.methodCall_KW (pl := pl) (thn (he.run pins s σ H _ I h) fun u s1 ⟨x, H1, I1, rx, a, dx, fs, ex, ea, l, q⟩ => ?_) ht
  subst ex
  obtain rfl : u = Value.ref a := rx
  refine getmeth_ok I1 ea c hm l ?_
  exact PySem.W.callWith_K0 (first := [.ref a]) I1.kIn hm.kp (run_fnS (us := [.ref a]) (vs := [.ref a]) F hr hb (hx σ) I1 (.cons rfl .nil) q)
theorem run_makeS {pins : List (Addr × Obj)} {σ : St} {H : Hp} {s : Shared} {Q : VK} {us : List Value} {vs : List V} (M : Mk X.K C f) (F : FnOk X.prog X.w X.K X.mg X.base CX k f fd ps sp) (hr : Room (k + 1) X.A) (hb : Binds X.K fd ps [])
    (hx : PassesAt CX X σ (E σ)) (I : Inv X pins σ H s) (r : Vals vs us)
    (h : ∀ x dx, H x = none → H dx = none → dx ≠ x → sp (.ref x :: vs) (upd (upd H dx (.own x)) x (.ins C dx [])) (fun v H2 => v = .non ∧ Q (.ref x) H2) (E σ)) :
    wpAny (model X.prog X.w) X.A (call (.ref C) us) (EP X pins σ Q) X.xe s := by
  have hq := h (s.heap.objs.size + 1) s.heap.objs.size (I.hok.fresh (Nat.le_succ _)) (I.hok.fresh (Nat.le_refl _)) (Nat.ne_of_lt (Nat.lt_succ_self _))
  have I2 := Inv.made (C := C) I
  have r2 : Vals (V.ref (s.heap.objs.size + 1) :: vs) (Value.ref (s.heap.objs.size + 1) :: us) := .cons rfl r
  have hl : (Value.ref (s.heap.objs.size + 1) :: us).length = ps.length := by
    have e := r2.length
    rw [F.len _ _ _ _ hq] at e
    exact e.symm
  have b := hb _ (Value.ref (s.heap.objs.size + 1) :: us) I2.kIn (by rw [List.append_nil]; exact hl)
  rw [List.append_nil] at b
  refine wpAny_call (make_map (f := f) I.kIn M.makes M.init (beq_iff_eq.mp M.fn) (codeAny_mono (F.run _ X.stack _ _ ⟨Value.ref (s.heap.objs.size + 1) :: us, []⟩ (Value.ref (s.heap.objs.size + 1) :: us) _ _ (E σ) (hr.make C us [])
    (I2.env0.make C us []) b r2 hq) fun r s' hq' => ?_))
  cases r with
  | error e => exact hx pins _ _ e s' I2 hq'
  | ok fl =>
    cases fl with
    | ret u =>
      obtain ⟨v, H', I3, rv, ev, q3⟩ := I2.after hq'
      subst ev
      exact ⟨rv, ⟨V.ref (s.heap.objs.size + 1), H', I3, rfl, q3⟩⟩
    | next => exact False.elim hq'
    | brk => exact False.elim hq'
    | cont => exact False.elim hq'
theorem pe_makeSg (M : Mk X.K C f) (F : FnOk X.prog X.w X.K X.mg X.base CX k f fd ps sp) (hr : Room (k + 1) X.A) (hg : Gl X x) (hm : X.mg x = some (.ref C)) (hb : Binds X.K fd ps []) (hx : ∀ σ, PassesAt CX X σ (E σ))
    (ha : PA X (e :: es) t) (hdb : (x == ("__debug__" : Str)) = false := by decide) (he : starEach (e :: es) X.env = (false, eval e X.env) :: starEach es X.env := by rfl) (hpl : (backTo pos (starEach es X.env)).any (·.1) = false := by rfl) :
    PE X (.Call (.Name x p) (e :: es) [] pos) (tMakeSg C sp E t) := by
  refine ⟨fun pins s σ H Q I h => ?_⟩
  refine wpAny_Call_Name_kw (ld_glob I hg hm ?_ hdb)
  refine PySem.W.callWith_K (h₀ := X.base) I.ok.mod.kin M.kp (thn (ha.run pos pins s σ H _ I h) fun us s1 ⟨vs, H1, I1, r, q⟩ => ⟨I1.kIn, ?_⟩) he hpl
  exact run_makeS M F hr hb (hx σ) I1 r q
end
end L2
namespace Pu
open PySem PySem.Spec PyProof.Rows L2
noncomputable def insOf (S : Sto) (c : Str) : D → Option (List (Str × D))
  | .ref k => match S[k]? with
    | some (.ins c' fs) => if c' = c then some fs else none
    | _ => none
  | _ => none
@[simp] theorem insOf_ref {S : Sto} {k : Nat} {c : Str} {fs : List (Str × D)} (h : S[k]? = some (.ins c fs)) : insOf S c (.ref k) = some fs := by
  simp only [insOf, h, if_true]
noncomputable def fldD (c f : Str) (d : D) (S : Sto) : Res D := match insOf S c d with
  | some fs => opt (fs.lookup f) S
  | none => .bad
/-- one attribute set -/
noncomputable def putFD (f : Str) (v : D) : List (Str × D) → List (Str × D)
  | [] => [(f, v)]
  | (g, x) :: r => if g = f then (g, v) :: r else (g, x) :: putFD f v r
noncomputable def stF (c f : Str) (o v : D) (S : Sto) : Option Sto := match o with
  | .ref k => match S[k]? with
    | some (.ins c' fs) => if c' = c ∧ fs.length < 1000 then some (S.set k (.ins c (putFD f v fs))) else none
    | _ => none
  | _ => none
section
variable {K : PySem.W.Frag} {cl : Str → Addr} {am : AM} {H : Hp} {S : Sto} {d : D} {v : V}
theorem VRf.lookup {f : Str} : ∀ {fs : List (Str × D)} {vs : List (Str × V)} {d : D}, VRf K am H fs vs → fs.lookup f = some d → ∃ v, vs.lookup f = some v ∧ VR K am H d v
  | _, _, _, .nil, h => by cases h
  | (g, x) :: fs, (g', y) :: vs, d, .cons ⟨e, r⟩ t, h => by
    have e : g = g' := e
    subst e
    rw [List.lookup_cons] at h ⊢
    by_cases hg : (f == g) = true
    · rw [hg] at h ⊢
      cases h
      exact ⟨y, rfl, r⟩
    · rw [Bool.not_eq_true] at hg
      rw [hg] at h ⊢
      exact VRf.lookup t h
theorem VRf.none_of {f : Str} : ∀ {fs : List (Str × D)} {vs : List (Str × V)}, VRf K am H fs vs → fs.lookup f = none → vs.lookup f = none
  | _, _, .nil, _ => rfl
  | (g, x) :: fs, (g', y) :: vs, .cons ⟨e, r⟩ t, h => by
    have e : g = g' := e
    subst e
    rw [List.lookup_cons] at h ⊢
    by_cases hg : (f == g) = true
    · rw [hg] at h; cases h
    · rw [Bool.not_eq_true] at hg
      rw [hg] at h ⊢
      exact VRf.none_of t h
theorem VRf.length : ∀ {fs : List (Str × D)} {vs : List (Str × V)}, VRf K am H fs vs → fs.length = vs.length
  | _, _, .nil => rfl
  | _, _, .cons _ t => by rw [List.length_cons, List.length_cons, VRf.length t]
theorem VRf.put {f : Str} (r : VR K am H d v) : ∀ {fs : List (Str × D)} {vs : List (Str × V)}, VRf K am H fs vs → VRf K am H (putFD f d fs) (putF f v vs)
  | _, _, .nil => .cons ⟨rfl, r⟩ .nil
  | (g, x) :: fs, (g', y) :: vs, .cons ⟨e, r'⟩ t => by
    have e : g = g' := e
    subst e
    show VRf K am H (if g = f then (g, d) :: fs else (g, x) :: putFD f d fs) (if g = f then (g, v) :: vs else (g, y) :: putF f v vs)
    by_cases hg : g = f
    · rw [if_pos hg, if_pos hg]
      exact .cons ⟨rfl, r⟩ t
    · rw [if_neg hg, if_neg hg]
      exact .cons ⟨rfl, r'⟩ (VRf.put r t)
theorem VRf.mono {am' : AM} {H' : Hp} (g : Grow am am' H H') {fs : List (Str × D)} {vs : List (Str × V)} (h : VRf K am H fs vs) : VRf K am' H' fs vs := Paired.mapP h fun p q z => ⟨z.1, z.2.mono g⟩
theorem insOf_ok (r : RelS K cl am S H) (h : VR K am H d v) {c : Str} {fs : List (Str × D)} (e : insOf S c d = some fs) : ∃ k a dx vs, d = .ref k ∧ v = .ref a ∧ am.ad[k]? = some a ∧ S[k]? = some (.ins c fs) ∧ H a = some (.ins (cl c) dx vs) ∧ VRf K am H fs vs := by
  cases h with
  | ref h1 =>
    rename_i n a
    simp only [insOf] at e
    cases q : S[n]? with
    | none => rw [q] at e; cases e
    | some o =>
      rw [q] at e
      cases o with
      | ins c' gs =>
        simp only at e
        split at e
        · rename_i hc
          subst hc
          cases e
          obtain ⟨dx, vs, h2, h3⟩ := r.ob n _ a q h1
          exact ⟨n, a, dx, vs, rfl, rfl, h1, q, h2, h3⟩
        · cases e
      | lst ys => cases e
      | dct ys => cases e
      | fdc _ _ _ => cases e
  | _ => cases e
end
section
variable {cl : Str → Addr} {W : WX} {X : Cx} {o a : Expr} {es : List Expr} {f g h : Ev D} {fs : List (Ev D)} {pos pos' apos p : Pos} {c x m : Str}
theorem qe_fld {n : Str} (hc : Cls X.K (cl c)) (hn : NoAttr X.K (cl c) n) (ho : QE cl W X o g) (hb : attributeBase o n X.env (eval o X.env) = eval o X.env := by rfl) : QE cl W X (.Attribute o n pos) (e1 (fldD c n) g) :=
  (pe_fld ho hb).imp fun σ H Q ⟨am, e, S, rs, re, p⟩ => ⟨am, e, S, rs, re, (Post.step p).imp fun x H1 ⟨am1, S1, d, _, g1, rs1, rv, p1⟩ => by
    unfold fldD at p1
    cases q : insOf S1 c d with
    | none => rw [q] at p1; exact p1.elim
    | some fs =>
      rw [q] at p1
      simp only at p1
      obtain ⟨k, a, dx, vs, _, ev, _, _, h2, h3⟩ := insOf_ok rs1 rv q
      cases q2 : fs.lookup n with
      | none => rw [q2] at p1; exact p1.elim
      | some d2 =>
        rw [q2] at p1
        obtain ⟨w, hw, rw'⟩ := h3.lookup q2
        exact ⟨a, cl c, dx, vs, w, ev, h2, hc, hn, hw, p1 am1 w H1 .refl rs1 rw'⟩⟩
/-- o.n = v -/
noncomputable def sFl (c n : Str) (vE oE : Ev D) : Stm := fun e S => (vE e S).stm e fun v S => (oE e S).stm e fun o S => match stF c n o v S with
  | some S' => .next e S'
  | none => .bad
theorem stF_ok {am : AM} {H : Hp} {S S' : Sto} {n : Str} {o v : D} {ov vv : V} {K : PySem.W.Frag} (rs : RelS K cl am S H) (ro : VR K am H o ov) (rv : VR K am H v vv) (e : stF c n o v S = some S') :
    ∃ a dx vs, ov = .ref a ∧ a ∈ am.ad ∧ H a = some (.ins (cl c) dx vs) ∧ vs.length < 1000 ∧ RelS K cl am S' (upd H a (.ins (cl c) dx (putF n vv vs))) := by
  cases ro with
  | ref h1 =>
    rename_i k a
    simp only [stF] at e
    cases q : S[k]? with
    | none => rw [q] at e; cases e
    | some ob =>
      rw [q] at e
      cases ob with
      | ins c' gs =>
        simp only at e
        split at e
        · rename_i hc
          obtain ⟨hc, hl⟩ := hc
          subst hc
          cases e
          obtain ⟨dx, vs, h2, h3⟩ := rs.ob k _ a q h1
          have hm : a ∈ am.ad := List.mem_of_getElem? h1
          refine ⟨a, dx, vs, rfl, hm, h2, by rw [← h3.length]; exact hl, rs.put h1 ⟨dx, _, upd_same, ?_⟩⟩
          exact VRf.put (rv.mono (Grow.put hm)) (h3.mono (Grow.put hm))
        · cases e
      | lst ys => cases e
      | dct ys => cases e
      | fdc _ _ _ => cases e
  | _ => cases e
theorem qs_fld {n : Str} (hc : Cls X.K (cl c)) (hn : NoAttr X.K (cl c) n) (ho : QE cl W X o g) (ha : QE cl W X a f) (hs : swapsWith a (some (.Attribute o n pos')) pos.line X.env = pure false := by rfl) :
    QS cl W X (.Assign [.Attribute o n pos'] a pos) (sFl c n f g) :=
  (ps_fld ho ha hs).imp fun E σ H ⟨am, e, S, rs, re, p⟩ => ⟨am, e, S, rs, re, (PostS.step re p).imp fun y H1 ⟨am1, S1, d, _, g1, rs1, rv, p1⟩ =>
    ⟨am1, e, S1, rs1, re.mono g1, (PostS.step (re.mono g1) p1).imp fun x H2 ⟨am2, S2, ob, _, g2, rs2, ro, p2⟩ => by
      cases q : stF c n ob d S2 with
      | none => rw [q] at p2; exact p2.elim
      | some S3 =>
        rw [q] at p2
        obtain ⟨a', dx, vs, ev, hm, h2, hl, rs3⟩ := stF_ok rs2 ro (rv.mono g2) q
        exact ⟨a', cl c, dx, vs, ev, h2, hc, hn, hl, p2 am2 σ _ (Grow.put hm) rs3 (((re.mono g1).mono g2).mono (Grow.put hm))⟩⟩⟩
structure MethIn (K : PySem.W.Frag) (cl : Str → Addr) (c m qual : Str) (st : Stmt) (ps : List Str) : Prop where
  ex : ∃ f fd, Fun K m qual st f fd ∧ Meth K (cl c) m f ∧ ∀ us : List Value, us.length = ps.length → bindArgs fd ⟨us, []⟩ = pure (ps.zip us)
structure MethOk (P : Program) (w : World) (K : PySem.W.Frag) (mg : Str → Option Value) (base : Heap) (cl : Str → Addr) (c m : Str) (k : Nat) (ps : List Str) (F : List D → Sto → Res D) : Prop where
  ex : ∃ f fd, FnOk P w K mg base (L2N.CX P w) k f fd ps (SpD K cl ps.length F) ∧ Meth K (cl c) m f ∧ (∀ us : List Value, us.length = ps.length → bindArgs fd ⟨us, []⟩ = pure (ps.zip us))
theorem MethOk.mono {P : Program} {w : World} {K : PySem.W.Frag} {mg : Str → Option Value} {base : Heap} {k j : Nat} {ps : List Str} {F : List D → Sto → Res D} (d : MethOk P w K mg base cl c m k ps F) (h : k ≤ j) : MethOk P w K mg base cl c m j ps F :=
  let ⟨f, fd, a, b⟩ := d.ex
  ⟨f, fd, a.mono h, b⟩
theorem meth_ok {P : Program} {w : World} {K : PySem.W.Frag} {mg : Str → Option Value} {base : Heap} {k : Nat} {N ps : List Str} {st : Stmt} {qual : Str} {md : Md} {body : Stm} (I : MethIn K cl c m qual st ps) (Sc : FnScope N ps (defScope st))
    (hb : ∀ (f : Addr) (cdv : Value) (A : Around) (outer : List PySem.Env) (s : Shared) (H : Hp) (E : XK), Room k (A.deeper (envOfC qual (defScope st) s.heap.objs.size f cdv)) →
      QB cl (fun c d _ H => E c d H) (cxOf (L2N.CX P w) P w K mg base N qual (defScope st) f cdv A outer s H E) (defBody st) body) :
    MethOk P w K mg base cl c m (k + 1) ps (runD md N.length body) := by
  obtain ⟨f, fd, Fn, hm, hbd⟩ := I.ex
  exact ⟨f, fd, qf_mk Fn Sc (hb f), hm, hbd⟩
/-- o is an object of the class without an attribute of the method's name -/
noncomputable def isM (c m : Str) (d : D) (S : Sto) : Bool := match insOf S c d with
  | some fs => (fs.lookup m).isNone
  | none => false
noncomputable def eMeth (c m : Str) (F : List D → Sto → Res D) (oE : Ev D) (fs : List (Ev D)) : Ev D := fun e S => (oE e S).bind fun o S => if isM c m o S = true then (eArgs fs e S).bind fun ds S => F (o :: ds) S else .bad
theorem isM_ok {K : PySem.W.Frag} {am : AM} {H : Hp} {S : Sto} {d : D} {v : V} (r : RelS K cl am S H) (h : VR K am H d v) (e : isM c m d S = true) : ∃ a dx vs, v = .ref a ∧ H a = some (.ins (cl c) dx vs) ∧ vs.lookup m = none := by
  unfold isM at e
  cases q : insOf S c d with
  | none => rw [q] at e; cases e
  | some fs =>
    rw [q] at e
    obtain ⟨k, a, dx, vs, _, ev, _, _, h2, h3⟩ := insOf_ok r h q
    exact ⟨a, dx, vs, ev, h2, h3.none_of (Option.isNone_iff_eq_none.mp e)⟩
theorem qe_meth {k : Nat} {ps : List Str} {F : List D → Sto → Res D} {pl : Sem Bool} (hc : Cls X.K (cl c)) (G : MethOk X.prog X.w X.K X.mg X.base cl c m k ps F) (hr : Room k X.A) (tk : L2N.Takes X W) (ho : QE cl W X o g) (ha : QA cl W X (a :: es) (eArgs fs)) (hn : fs.length + 1 = ps.length := by rfl)
    (hst : starEach (a :: es) X.env = (false, eval a X.env) :: starEach es X.env := by rfl) (hpl : (backTo pos (starEach es X.env)).any (·.1) = false := by rfl)
    (ht : eval (.Call (.Attribute o m apos) (a :: es) [] pos) X.env = (do
      let ov ← eval o X.env
      standAt apos.atName
      let (f, first) ← holding [ov] (getMethod ov m pl)
      callWith pos f first (backTo pos (starEach (a :: es) X.env)) (backToKw pos (keywordEach [] X.env))) := by rfl) :
    QE cl W X (.Call (.Attribute o m apos) (a :: es) [] pos) (eMeth c m F g fs) := by
  obtain ⟨ff, fd, Fk, hm, hbd⟩ := G.ex
  refine (pe_methSg (pl := pl) ho hc hm Fk hr (.all hbd) (fun σ => L2N.passAt tk σ) ha hst hpl ht).imp fun σ H Q ⟨am, e, S, rs, re, p⟩ => ?_
  refine ⟨am, e, S, rs, re, (Post.step p).imp fun x H1 ⟨am1, S1, d, _, g1, rs1, ro, p1⟩ => ?_⟩
  by_cases hi : isM c m d S1 = true
  · rw [if_pos hi] at p1
    obtain ⟨a', dx, vs, ev, h2, h3⟩ := isM_ok rs1 ro hi
    exact ⟨a', dx, vs, ev, h2, h3, am1, e, S1, rs1, re.mono g1, (Post.step p1).imp fun xs H2 ⟨am2, S2, ds, ee, g2, rs2, rvs, p2⟩ => ⟨am2, d :: ds, S2, by rw [List.length_cons, eArgs_len ee, hn], rs2, .cons (ro.mono g2) rvs, p2⟩⟩
  · rw [if_neg hi] at p1
    exact p1.elim
theorem qe_meth0 {k : Nat} {ps : List Str} {F : List D → Sto → Res D} {pl : Sem Bool} (hc : Cls X.K (cl c)) (G : MethOk X.prog X.w X.K X.mg X.base cl c m k ps F) (hr : Room k X.A) (tk : L2N.Takes X W) (ho : QE cl W X o g) (hn : 1 = ps.length := by rfl)
    (ht : eval (.Call (.Attribute o m apos) [] [] pos) X.env = (do
      let ov ← eval o X.env
      standAt apos.atName
      let (f, first) ← holding [ov] (getMethod ov m pl)
      callWith pos f first (backTo pos (starEach [] X.env)) (backToKw pos (keywordEach [] X.env))) := by rfl) :
    QE cl W X (.Call (.Attribute o m apos) [] [] pos) (eMeth c m F g []) := by
  obtain ⟨ff, fd, Fk, hm, hbd⟩ := G.ex
  refine (pe_meth0Sg (pl := pl) ho hc hm Fk hr (.all hbd) (fun σ => L2N.passAt tk σ) ht).imp fun σ H Q ⟨am, e, S, rs, re, p⟩ => ?_
  refine ⟨am, e, S, rs, re, (Post.step p).imp fun x H1 ⟨am1, S1, d, _, g1, rs1, ro, p1⟩ => ?_⟩
  by_cases hi : isM c m d S1 = true
  · rw [if_pos hi] at p1
    obtain ⟨a', dx, vs, ev, h2, h3⟩ := isM_ok rs1 ro hi
    have p2 : Post X.K cl W σ (VR X.K) am1 H1 (F [d] S1) Q := p1
    exact ⟨a', dx, vs, ev, h2, h3, am1, [d], S1, by rw [List.length_singleton, hn], rs1, .cons ro .nil, p2⟩
  · rw [if_neg hi] at p1
    exact p1.elim
structure ClsM (K : PySem.W.Frag) (mg : Str → Option Value) (cl : Str → Addr) (c : Str) : Prop where
  at_ : mg c = some (.ref (cl c))
  mks : PySem.W.makesIn K (cl c) = true
  kp : PySem.W.keepIn K (.ref (cl c)) = true
noncomputable def eMake (c : Str) (F : List D → Sto → Res D) (fs : List (Ev D)) : Ev D := fun e S => (eArgs fs e S).bind fun ds S => (F (.ref S.length :: ds) (S ++ [.ins c []])).bind fun d S2 => match d with
  | .non => .ok (.ref S.length) S2
  | _ => .bad
theorem made_ok {K : PySem.W.Frag} {am : AM} {H : Hp} {S : Sto} {x dx : Addr} {ds : List D} {vs : List V} {F : List D → Sto → Res D} {σ : L2.St} {Q : VK} {n : Nat} (rs : RelS K cl am S H) (rv : VRs K am H ds vs) (hx : H x = none) (hd : H dx = none) (hne : dx ≠ x) (hn : ds.length + 1 = n)
    (p : Post K cl W σ (VR K) am H ((F (.ref S.length :: ds) (S ++ [.ins c []])).bind fun d S2 => match d with
      | .non => .ok (.ref S.length) S2
      | _ => .bad) Q) :
    SpD K cl n F (.ref x :: vs) (upd (upd H dx (.own x)) x (.ins (cl c) dx [])) (fun v H2 => v = .non ∧ Q (.ref x) H2) (WE W σ) := by
  have hx1 : (upd H dx (.own x)) x = none := by rw [upd_ne (Ne.symm hne)]; exact hx
  have g1 : Grow am am H (upd H dx (.own x)) := Grow.upd hd
  have rs1 : RelS K cl am S (upd H dx (.own x)) := rs.upd hd
  have g2 : Grow am (am.resv x) (upd H dx (.own x)) (upd (upd H dx (.own x)) x (.ins (cl c) dx [])) := Grow.resv hx1
  have rs2 : RelS K cl (am.resv x) S (upd (upd H dx (.own x)) x (.ins (cl c) dx [])) := rs1.resv hx1
  have hm : x ∈ (am.resv x).no := List.mem_cons_self
  have hnad : x ∉ (am.resv x).ad := fun z => (rs1.new hx1) (am.sub x z)
  have rs3 := rs2.push (o := .ins c []) hm hnad ⟨dx, [], upd_same, .nil⟩
  have g3 : Grow am ((am.resv x).push x hm) H (upd (upd H dx (.own x)) x (.ins (cl c) dx [])) := (g1.trans g2).push hm hx
  have rx : VR K ((am.resv x).push x hm) (upd (upd H dx (.own x)) x (.ins (cl c) dx [])) (.ref S.length) (.ref x) := by
    refine .ref ?_
    show (am.ad ++ [x])[S.length]? = some x
    rw [← rs.len, List.getElem?_append_right (Nat.le_refl _), Nat.sub_self]
    rfl
  refine ⟨(am.resv x).push x hm, .ref S.length :: ds, S ++ [.ins c []], by rw [List.length_cons, hn], rs3, .cons rx (rv.mono g3), ?_⟩
  cases q : F (.ref S.length :: ds) (S ++ [.ins c []]) with
  | ok d S2 =>
    rw [q] at p
    cases d with
    | non =>
      have p : Post K cl W σ (VR K) am H (.ok (.ref S.length) S2) Q := p
      intro am' v H' g rs' rv'
      cases rv'
      exact ⟨rfl, p am' _ H' (g3.trans g) rs' (rx.mono g)⟩
    | _ => exact p.elim
  | exc c2 S2 =>
    rw [q] at p
    have p : Post K cl W σ (VR K) am H (.exc c2 S2) Q := p
    exact fun am' H' g rs' => p am' H' (g3.trans g) rs'
  | bad => rw [q] at p; exact p.elim
theorem qe_make {k : Nat} {ps : List Str} {F : List D → Sto → Res D} (M : ClsM X.K X.mg cl c) (G : MethOk X.prog X.w X.K X.mg X.base cl c "__init__" k ps F) (hr : Room (k + 1) X.A) (hg : Gl X c) (tk : L2N.Takes X W) (ha : QA cl W X (a :: es) (eArgs fs)) (hn : fs.length + 1 = ps.length := by rfl) (hdb : (c == ("__debug__" : Str)) = false := by decide)
    (he : starEach (a :: es) X.env = (false, eval a X.env) :: starEach es X.env := by rfl) (hpl : (backTo pos (starEach es X.env)).any (·.1) = false := by rfl) : QE cl W X (.Call (.Name c p) (a :: es) [] pos) (eMake c F fs) := by
  obtain ⟨ff, fd, Fk, hm, hbd⟩ := G.ex
  refine (pe_makeSg ⟨M.mks, hm.at_, hm.fn, M.kp⟩ Fk hr hg M.at_ (.all hbd) (fun σ => L2N.passAt tk σ) ha hdb he hpl).imp fun σ H Q ⟨am, e, S, rs, re, p⟩ => ?_
  exact ⟨am, e, S, rs, re, (Post.step p).imp fun xs H1 ⟨am1, S1, ds, ee, g1, rs1, rvs, p1⟩ => fun x dx hx hd hne => made_ok rs1 rvs hx hd hne (by rw [eArgs_len ee, hn]) p1⟩
end
section
variable {f g h : Ev D} {fs : List (Ev D)} {e : En} {S : Sto} {c n m : Str} {k : Nat} {gs : List (Str × D)} {v : D} {F : List D → Sto → Res D}
theorem fldD_ref (h : S[k]? = some (.ins c gs)) : fldD c n (.ref k) S = opt (gs.lookup n) S := by
  unfold fldD
  rw [insOf_ref h]
theorem stF_ref (h : S[k]? = some (.ins c gs)) (hl : gs.length < 1000) : stF c n (.ref k) v S = some (S.set k (.ins c (putFD n v gs))) := by
  simp only [stF, h]
  rw [if_pos ⟨trivial, hl⟩]
theorem isM_ref (h : S[k]? = some (.ins c gs)) (hm : gs.lookup m = none) : isM c m (.ref k) S = true := by
  unfold isM
  rw [insOf_ref h]
  simp only [hm]
  rfl
theorem ap_Fl : sFl c n f g e S = (f e S).stm e fun v S => (g e S).stm e fun o S => match stF c n o v S with
  | some S' => .next e S'
  | none => .bad := id rfl
theorem ap_Meth : eMeth c m F f fs e S = (f e S).bind fun o S => if isM c m o S = true then (eArgs fs e S).bind fun ds S => F (o :: ds) S else .bad := id rfl
theorem ap_Make : eMake c F fs e S = (eArgs fs e S).bind fun ds S => (F (.ref S.length :: ds) (S ++ [.ins c []])).bind fun d S2 => match d with
  | .non => .ok (.ref S.length) S2
  | _ => .bad := id rfl
end
end Pu
set_option Elab.async false
set_option linter.all false
set_option maxRecDepth 100000
set_option maxHeartbeats 1000000
namespace L2
open PySem PySem.Spec PyProof.Rows
section
variable {X : Cx} {o : Expr} {p pos apos mpos : Pos} {td : TE}
noncomputable def tListVals (td : TE) : TE := fun σ H Q => td σ H fun x H1 => ∃ a kvs, x = V.ref a ∧ H1 a = some (.dK kvs) ∧ ∀ l, H1 l = none → Q (.ref l) (upd H1 l (.lst (kvs.map (·.2))))
theorem KV.snd {κ : Type} : ∀ {kvs : List (κ × V)} {vs : List (κ × Value)}, KV kvs vs → Vals (kvs.map (·.2)) (vs.map (·.2)) := by
  intro kvs vs r
  unfold KV at r
  induction r with
  | nil => exact .nil
  | cons r t ih => exact .cons r.2 ih
theorem pe_listVals (hc : X.calm = true) (hg : Gl X "list") (hm : X.mg "list" = none) (hd : PE X o td) (hbase : attributeBase o "values" X.env (eval o X.env) = eval o X.env := by rfl) (hline : (apos.endLine == mpos.line) = true := by rfl)
    (hse : starEach [Expr.Call (.Attribute o "values" apos) [] [] mpos] X.env = [(false, eval (Expr.Call (.Attribute o "values" apos) [] [] mpos) X.env)] := by rfl) :
    PE X (.Call (.Name "list" p) [.Call (.Attribute o "values" apos) [] [] mpos] [] pos) (tListVals td) := by
  refine ⟨fun pins s σ H Q I h => ?_⟩
  refine wpAny_Call_Name_kw (ld_blt I hg hm (u := .type "list") (by first | rfl | decide +kernel) ?_ (by first | decide +kernel | decide) (by first | decide +kernel | decide))
  rw [hse]
  refine PySem.callWith_type1 (wpAny_Call_method0_late hbase hline (thn (hd.run pins s σ H _ I h) fun v s1 ⟨x, H1, I1, r1, a, kvs, ex, ha, q⟩ => ?_))
  subst ex
  obtain rfl : v = Value.ref a := r1
  obtain ⟨hz, hsys, vs, rel, dof⟩ := dk_of I1.hok ha
  obtain ⟨ep, dat⟩ := dof.dictAt
  have dat' := dat
  obtain ⟨ob, es, ho, ex, hdat, hko, hpr, hnd⟩ := dat'
  refine ⟨"dict", "dict.values", F.plainAttrs_dict, F.slot_dict_values, F.type_dict_values, ⟨ob, ho, ex.1⟩, fun b e => ?_, Calls.callWith_builtin rfl (PySem.evalArgs_none ?_)⟩
  · cases e
    exact ⟨ob, ho, ex.2.1⟩
  refine call_meetsIn F.slot_dict_values ⟨ob, ho, ex.1⟩ F.entry_dict_values (F.args_dict_values_1 _) (meets_dict_values (mixKind X.prog X.w) a hsys) ⟨⟨vs, dof⟩, ?_⟩
  have dat1 : (s1.heap.push { cls := .type "dict_values", data := .fields #[.ref a] }).DictAt (mixKind X.prog X.w) a vs ep := dat.keep fun b u e => Heap.get?_push_of_some _ e
  have hlen : vs.length ≤ sizeLine := by
    rw [← KV.length rel]
    exact hz
  refine PySem.W.kdl_call (PySem.W.kdl_values (r := s1.heap.objs.size) (d := a) (kvs := vs) (knd := mixKind X.prog X.w) (ep := ep)) (I1.ok.hd hc) ⟨⟨_, Heap.get?_push_size _ rfl, rfl, rfl⟩, dat1⟩ hlen fun h' tk acc' c' hk hS hacc => ?_
  have hacc2 : acc'.toList = vs.map (·.2) := PySem.W.kdl_vals_eq acc'.toList (by rw [Array.length_toList]; exact hacc.1) fun j v e => hacc.2 j v (by rw [← Array.getElem?_toList]; exact e)
  have k1 : ∀ b u, s1.heap.get? b = some u → h'.get? b = some u := fun b u e => hk b u (Heap.get?_push_of_some _ e)
  have hsz : (s1.heap.push { cls := .type "dict_values", data := .fields #[.ref a] }).objs.size = s1.heap.objs.size + 1 := Heap.size_push _ _
  rw [hsz] at hS ⊢
  have hrel := KV.snd rel
  refine ⟨.ref (s1.heap.objs.size + 1), _, I1.laid (t' := tk) k1 (Nat.le_succ _) (show ObjOk X.prog X.w _ h' _ (.lst (kvs.map (·.2))) from ⟨?_, acc'.toList, c', by rw [hacc2]; exact hrel, by rw [Array.toArray_toList]; exact hS⟩), rfl, q _ (I1.hok.fresh (Nat.le_succ _))⟩
  rw [List.length_map]
  exact hz
end
end L2
namespace Pu
open PySem PySem.Spec PyProof.Rows L2
section
variable {cl : Str → Addr} {W : WX} {X : Cx} {a b c : Expr} {es : List Expr} {f g h : Ev D} {fs : List (Ev D)} {pos p apos cpos mpos : Pos}
noncomputable def ii3D (ds : List D) (S : Sto) : Res D := match ds with
  | [.int i, .int j, .int k] => .ok (.int (minI (minI i j) k)) S
  | _ => .bad
theorem nuMin2_int (i j : Int) : nuMin2 (.int i) (.int j) = some (.int (minI i j)) := by
  show (some (decide (j < i))).map _ = _
  unfold minI
  by_cases h : j < i
  · simp [h]
  · simp [h]
theorem ok_ii3 : OkN X.K cl (rNuC3 nuMin3) ii3D := by
  intro W σ am S H ds vs Q rs h1 pp
  unfold ii3D at pp
  split at pp
  · rename_i i j k
    cases h1 with
    | cons r1 h1 =>
      cases r1
      cases h1 with
      | cons r2 h1 =>
        cases r2
        cases h1 with
        | cons r3 h1 =>
          cases r3
          cases h1
          refine ⟨.int i, .int j, .int k, .int (minI (minI i j) k), rfl, ?_, pp am _ H .refl rs (.int _)⟩
          unfold nuMin3
          rw [nuMin2_int]
          exact nuMin2_int _ _
  · exact pp.elim
theorem qe_min3 (hc : X.calm = true) (hg : Gl X "min") (hm : X.mg "min" = none) (ha : QA cl W X [a, b, c] (eArgs fs)) (he : starEach [a, b, c] X.env = (false, eval a X.env) :: starEach [b, c] X.env := by rfl) (hpl : (backTo pos (starEach [b, c] X.env)).any (·.1) = false := by rfl) :
    QE cl W X (.Call (.Name "min" p) [a, b, c] [] pos) (eCall ii3D fs) := qe_callB (call_min3Nu hc) ok_ii3 hg hm (by decide +kernel) ha (by decide) (by decide) he hpl
noncomputable def dropD (kvs : List (Key × D)) (k : Key) : List (Key × D) := kvs.filter fun kv => decide (kv.1 ≠ k)
noncomputable def popK (o i z : D) (S : Sto) : Res D := match o with
  | .ref n => match S[n]? with
    | some (.dct kvs) => match keyOf i with
      | some k => match getK kvs k with
        | some v => .ok v (S.set n (.dct (dropD kvs k)))
        | none => .ok z S
      | none => .bad
    | _ => .bad
  | _ => .bad
theorem VRk.drop {K : PySem.W.Frag} {am : AM} {H : Hp} (k : Key) : ∀ {ds : List (Key × D)} {vs : List (Key × V)}, VRk K am H ds vs → VRk K am H (dropD ds k) (dropK vs k)
  | _, _, .nil => .nil
  | _, _, .cons (k := k') (ds := ds) (vs := vs) r t => by
    have ih := VRk.drop k t
    unfold dropD dropK at ih ⊢
    rw [List.filter_cons, List.filter_cons]
    by_cases e : k' = k
    · simp only [e, ne_eq, not_true_eq_false, decide_false, Bool.false_eq_true, if_false]
      exact ih
    · simp only [e, ne_eq, not_false_eq_true, decide_true, if_true]
      exact .cons r ih
noncomputable def ePopK (f g h : Ev D) : Ev D := fun e S => (f e S).bind fun o S => if (dcOf S o).isSome = true then (g e S).bind fun i S => (h e S).bind fun z S => popK o i z S else .bad
theorem qe_popK (ho : QE cl W X a f) (hi : QE cl W X b g) (hz : QE cl W X c h)
    (m1 : attributeBase a "pop" X.env (eval a X.env) = eval a X.env := by rfl)
    (m2 : ((backTo cpos (starEach [b, c] X.env)).all (fun x => !x.1) && (backToKw cpos (keywordEach [] X.env)).all (fun x => x.1.isSome) && decide (([b, c] : List Expr).length + ([] : List Keyword).length + (if ([] : List Keyword).isEmpty then 0 else 1) < 30)) = true := by rfl)
    (m3 : (apos.endLine == cpos.line) = true := by rfl) (m4 : backTo cpos (starEach [b, c] X.env) = [(false, eval b X.env), (false, eval c X.env)] := by rfl) :
    QE cl W X (.Call (.Attribute a "pop" apos) [b, c] [] cpos) (ePopK f g h) :=
  (pe_dpop2 ho hi hz ⟨m1, m2, m3, m4⟩).imp fun σ H Q ⟨am, e, S, rs, re, q0⟩ =>
    ⟨am, e, S, rs, re, (Post.step q0).imp fun x H1 ⟨am1, S1, d1, _, g1, rs1, rv1, q1⟩ => by
      cases e1 : dcOf S1 d1 with
      | none => simp only [e1] at q1; exact q1.elim
      | some kvs =>
        simp only [e1, Option.isSome_some, if_true] at q1
        obtain ⟨l, us, ev, h1, h2⟩ := dcOf_ok rs1 rv1 e1
        subst ev
        refine ⟨l, rfl, .inl ⟨us, .inl h1⟩, am1, e, S1, rs1, re.mono g1, (Post.step q1).imp fun y H2 ⟨am2, S2, d2, _, g2, rs2, rv2, q2⟩ => ?_⟩
        refine ⟨am2, e, S2, rs2, (re.mono g1).mono g2, (Post.step q2).imp fun z H3 ⟨am3, S3, d3, _, g3, rs3, rv3, q3⟩ => ?_⟩
        have rv1' := (rv1.mono g2).mono g3
        unfold popK at q3
        cases rv1' with
        | @ref n _ hn =>
          simp only at q3
          cases e2 : S3[n]? with
          | none => rw [e2] at q3; exact q3.elim
          | some ob =>
            rw [e2] at q3
            cases ob with
            | lst _ => exact q3.elim
            | ins _ _ => exact q3.elim
            | fdc _ _ _ => exact q3.elim
            | dct kvs3 =>
              simp only at q3
              cases e3 : keyOf d2 with
              | none => rw [e3] at q3; exact q3.elim
              | some k =>
                rw [e3] at q3
                simp only at q3
                obtain ⟨us3, h3, h4⟩ := rs3.ob n _ l e2 hn
                have hm : l ∈ am3.ad := List.mem_of_getElem? hn
                refine ⟨us3, k, h3, keyOf_ok (rv2.mono g3) e3, fun v hv => ?_, fun hv => ?_⟩
                · rcases h4.get k with ⟨n1, n2⟩ | ⟨d, v', n1, n2, n3⟩
                  · rw [n2] at hv; cases hv
                  · rw [n2] at hv
                    cases hv
                    rw [n1] at q3
                    exact q3 am3 _ _ (Grow.put hm) (rs3.put hn ⟨_, upd_same, (h4.drop k).mono (Grow.put hm)⟩) (n3.mono (Grow.put hm))
                · rcases h4.get k with ⟨n1, n2⟩ | ⟨d, v', n1, n2, n3⟩
                  · rw [n1] at q3
                    exact q3 am3 _ H3 .refl rs3 rv3
                  · rw [n2] at hv; cases hv
        | _ => exact q3.elim⟩
noncomputable def nVals (f : Ev D) : Ev DO := fun e S => (f e S).bind fun d S => match dcOf S d with
  | some kvs => .ok (.lst (kvs.map (·.2))) S
  | none => .bad
theorem VRk.vals {K : PySem.W.Frag} {am : AM} {H : Hp} : ∀ {ds : List (Key × D)} {vs : List (Key × V)}, VRk K am H ds vs → VRs K am H (ds.map (·.2)) (vs.map (·.2))
  | _, _, .nil => .nil
  | _, _, .cons r t => .cons r (VRk.vals t)
theorem qn_vals (hc : X.calm = true) (hg : Gl X "list") (hm : X.mg "list" = none) (ha : QE cl W X a f) (hbase : attributeBase a "values" X.env (eval a X.env) = eval a X.env := by rfl) (hline : (apos.endLine == mpos.line) = true := by rfl)
    (hse : starEach [Expr.Call (.Attribute a "values" apos) [] [] mpos] X.env = [(false, eval (Expr.Call (.Attribute a "values" apos) [] [] mpos) X.env)] := by rfl) :
    QN cl W X (.Call (.Name "list" p) [.Call (.Attribute a "values" apos) [] [] mpos] [] pos) (nVals f) :=
  (pe_listVals hc hg hm ha hbase hline hse).imp fun σ H Q ⟨am, e, S, rs, re, q0⟩ =>
    ⟨am, e, S, rs, re, (PostN.step q0).imp fun x H1 ⟨am1, S1, d1, _, g1, rs1, rv1, q1⟩ => by
      cases e1 : dcOf S1 d1 with
      | none => simp only [e1] at q1; exact q1.elim
      | some kvs =>
        simp only [e1] at q1
        obtain ⟨l, us, ev, h1, h2⟩ := dcOf_ok rs1 rv1 e1
        subst ev
        exact ⟨l, us, rfl, h1, fun q hq => q1.laid g1 rs1 hq ⟨_, upd_same, h2.vals.mono (Grow.resv hq)⟩⟩⟩
end
section
variable {f g h : Ev D} {e : En} {S : Sto} {n : Nat} {kvs : List (Key × D)} {i j k : Int} {z : D}
@[simp] theorem ii3_ap : ii3D [.int i, .int j, .int k] S = .ok (.int (minI (minI i j) k)) S := id rfl
theorem ap_PopK : ePopK f g h e S = (f e S).bind fun o S => if (dcOf S o).isSome = true then (g e S).bind fun i S => (h e S).bind fun z S => popK o i z S else .bad := id rfl
theorem ap_Vals : nVals f e S = (f e S).bind fun d S => match dcOf S d with
  | some kvs => .ok (.lst (kvs.map (·.2))) S
  | none => .bad := id rfl
theorem popK_ref (h : S[n]? = some (.dct kvs)) : popK (.ref n) (.int i) z S = match getK kvs (.inl i) with
    | some v => .ok v (S.set n (.dct (dropD kvs (.inl i))))
    | none => .ok z S := by
  unfold popK
  simp only [h, keyOf]
end
end Pu
set_option Elab.async false
set_option linter.all false
set_option maxRecDepth 100000
set_option maxHeartbeats 1000000
namespace Pu
open PySem PySem.Spec PyProof.Rows L2
section
variable {cl : Str → Addr} {W : WX} {X : Cx} {a b c : Expr} {f g h : Ev D} {pos : Pos}
theorem unitsH {A : Around} {k : Nat} (hr : L2H.RoomH k A) : A.units + 64 < cLine := by have := hr.un; omega
theorem qe_neH {k : Nat} (hr : L2H.RoomH k X.A) (ha : QE cl W X a f) (hb : QE cl W X b g) : QE cl W X (.Compare a [.NotEq] [b] pos) (e2 (eqD true) f g) := qe_cmp (op_neD (unitsH hr)) ok_ne ha hb (nomark _)
end
end Pu
set_option Elab.async false
set_option linter.all false
set_option maxRecDepth 100000
set_option maxHeartbeats 1000000
namespace Pu
open PySem PySem.Spec PyProof.Rows L2
end Pu
set_option Elab.async false
set_option linter.all false
set_option maxRecDepth 100000
set_option maxHeartbeats 1000000
namespace L2
open PySem PySem.Spec PyProof.Rows
end L2
namespace Pu
open PySem PySem.Spec PyProof.Rows L2
section
variable {cl : Str → Addr} {W : WX} {X : Cx} {a o : Expr} {f g : Ev D} {pos apos cpos : Pos} {K : PySem.W.Frag}
theorem VRs.eraseIdx {am : AM} {H : Hp} : ∀ {ds : List D} {vs : List V} (j : Nat), VRs K am H ds vs → VRs K am H (ds.eraseIdx j) (vs.eraseIdx j)
  | _, _, _, .nil => by simpa using VRs.nil
  | _, _, 0, .cons _ t => by simpa using t
  | _, _, j + 1, .cons h t => by simpa using VRs.cons h (VRs.eraseIdx j t)
end
end Pu
set_option Elab.async false
set_option linter.all false
set_option maxRecDepth 100000
namespace Pu
open PySem PySem.Spec PyProof.Rows L2
end Pu
set_option Elab.async false
set_option linter.all false
set_option maxRecDepth 100000
namespace Pu
open PySem PySem.Spec PyProof.Rows L2
end Pu
set_option Elab.async false
set_option linter.all false
set_option maxRecDepth 100000
set_option maxHeartbeats 2000000
namespace Pu
open PySem PySem.Spec PyProof.Rows L2 HotX
open PySem.Calls
end Pu
set_option Elab.async false
set_option linter.all false
set_option maxRecDepth 100000
set_option maxHeartbeats 1000000
namespace Pu
open PySem PySem.Spec PyProof.Rows L2
end Pu
set_option Elab.async false
set_option linter.all false
set_option maxRecDepth 100000
set_option maxHeartbeats 1000000
namespace Pu
open PySem PySem.Spec PyProof.Rows L2
end Pu
set_option Elab.async false
set_option linter.all false
set_option maxRecDepth 100000
set_option maxHeartbeats 2000000
namespace PySem
end PySem
namespace Pu
open PySem PySem.Spec PyProof.Rows L2
end Pu
set_option Elab.async false
set_option linter.all false
set_option maxRecDepth 100000
set_option maxHeartbeats 2000000
namespace Pu
open PySem PySem.Spec PyProof.Rows L2
end Pu
set_option Elab.async false
set_option linter.all false
set_option maxRecDepth 100000
set_option maxHeartbeats 2000000
namespace Pu
open PySem PySem.Spec PyProof.Rows L2
section
variable {cl : Str → Addr} {W : WX} {X : Cx} {a b : Expr} {f g : Ev D} {pos : Pos}
theorem PostN.grow {K : PySem.W.Frag} {σ : L2.St} {am am1 : AM} {H H1 : Hp} {S1 : Sto} {r : Res DO} {Q : VK} (p : PostN K cl W σ am H r Q) (g : Grow am am1 H H1) (rs1 : RelS K cl am1 S1 H1) : PostN K cl W σ am1 H1 r Q := by
  cases r with
  | ok o S => exact fun am' a H' g' rs' hn hno had ho => p am' a H' (g.trans g') rs' (g.unborn rs1 hn) hno had ho
  | exc c S => exact fun am' H' g' rs' => p am' H' (g.trans g') rs'
  | bad => exact p
noncomputable def catN (x y : D) (S : Sto) : Res DO := match lvOf S x, lvOf S y with
  | some xs, some ys => if xs.length + ys.length ≤ sizeLine then .ok (.lst (xs ++ ys)) S else .bad
  | _, _ => .bad
noncomputable def nCat (f g : Ev D) : Ev DO := fun e S => (f e S).bind fun x S => (g e S).bind fun y S => catN x y S
theorem qn_cat (ha : QE cl W X a f) (hb : QE cl W X b g) : QN cl W X (.BinOp a .Add b pos) (nCat f g) :=
  (pe_op op_cat ha hb).imp fun σ H Q ⟨am, e, S, rs, re, p⟩ => ⟨am, e, S, rs, re, (PostN.step p).imp fun v H1 ⟨am1, S1, x, _, g1, rs1, rx, p1⟩ =>
    ⟨am1, e, S1, rs1, re.mono g1, (PostN.step (p1.grow g1 rs1)).imp fun u H2 ⟨am2, S2, y, _, g2, rs2, ry, p2⟩ => by
      unfold catN at p2
      cases e1 : lvOf S2 x with
      | none => rw [e1] at p2; exact p2.elim
      | some xs =>
        cases e2 : lvOf S2 y with
        | none => rw [e1, e2] at p2; exact p2.elim
        | some ys =>
          rw [e1, e2] at p2
          obtain ⟨l, vs, ev, r1, hs⟩ := lvOf_ok rs2 (rx.mono g2) e1
          obtain ⟨k, us, eu, r2, hs2⟩ := lvOf_ok rs2 ry e2
          simp only at p2
          by_cases hz : xs.length + ys.length ≤ sizeLine
          · rw [if_pos hz] at p2
            exact ⟨l, k, vs, us, ev, eu, r1, r2, by rw [← hs.length, ← hs2.length]; exact hz, fun q hq => PostN.laid p2 g2 rs2 hq ⟨vs ++ us, upd_same, (hs.append hs2).mono (Grow.resv hq)⟩⟩
          · rw [if_neg hz] at p2
            exact p2.elim⟩⟩
theorem ap_nCat {e : En} {S : Sto} : nCat f g e S = (f e S).bind fun x S => (g e S).bind fun y S => catN x y S := id rfl
end
end Pu
set_option Elab.async false
set_option linter.all false
set_option maxRecDepth 100000
set_option maxHeartbeats 2000000
namespace Pu
open PySem PySem.Spec PyProof.Rows L2
noncomputable def sAsgL (ts : List Tg) (f : Ev D) : Stm := fun e S => (f e S).stm e fun d S => match lvOf S d with
  | some xs => (match bindTs ts xs e with
    | some e' => .next e' S
    | none => .bad)
  | none => .bad
section
variable {cl : Str → Addr} {W : WX} {X : Cx} {a : Expr} {es : List Expr} {f : Ev D} {ts : List Tg} {pos p2 : Pos} {k n : Nat}
theorem bindTs_len : ∀ (ts : List Tg) (ds : List D) (e e' : En), bindTs ts ds e = some e' → ds.length = ts.length := by
  intro ts
  induction ts with
  | nil => intro ds e e' h; cases ds with | nil => rfl | cons _ _ => cases h
  | cons t ts ih =>
    intro ds e e' h
    cases ds with
    | nil => cases h
    | cons d ds =>
      have h : ((bindT t d e).bind fun e => bindTs ts ds e) = some e' := h
      cases q1 : bindT t d e with
      | none => rw [q1] at h; cases h
      | some e1 => rw [q1] at h; rw [List.length_cons, List.length_cons, ih ds e1 e' h]
theorem qs_asgL (hc : X.calm = true) (he : QE cl W X a f) (hg : QGs cl X es ts) (hl : ts.length = n) (hn : (assignEach es X.env).length = n := by rfl) (hst : (assignEach es X.env).findIdx? (·.1) = none := by rfl)
    (hs : swapsWithSole [.Tuple es k p2] a pos.line X.env = pure false := by rfl) (hw : swappedStores [.Tuple es k p2] a X.env = pure none := by rfl) (h1 : (assignEach [.Tuple es k p2] X.env).map (·.2) = [assign (.Tuple es k p2) X.env] := by rfl) :
    QS cl W X (.Assign [.Tuple es k p2] a pos) (sAsgL ts f) := (ps_asg he (pg_lst hc hg hn hst) hs hw h1).imp fun E σ H ⟨am, e, S, rs, re, p⟩ =>
  ⟨am, e, S, rs, re, (PostS.step re p).imp fun x H1 ⟨am1, S1, d, _, g1, rs1, rv, p1⟩ => by
    cases q : lvOf S1 d with
    | none => simp only [q] at p1; exact p1.elim
    | some xs =>
      simp only [q] at p1
      cases q2 : bindTs ts xs e with
      | none => simp only [q2] at p1; exact p1.elim
      | some e' =>
        simp only [q2] at p1
        obtain ⟨l, vs, ev, r1, hvs⟩ := lvOf_ok rs1 rv q
        subst ev
        exact ⟨l, vs, rfl, .of r1, by rw [← hvs.length, bindTs_len ts xs e e' q2, hl], am1, e, S1, xs, e', rs1, re.mono g1, hvs, q2, fun σ' re' _ => p1 am1 σ' H1 .refl rs1 re'⟩⟩
theorem ap_AsgL {e : En} {S : Sto} : sAsgL ts f e S = (f e S).stm e fun d S => match lvOf S d with
  | some xs => (match bindTs ts xs e with
    | some e' => .next e' S
    | none => .bad)
  | none => .bad := id rfl
end
end Pu
set_option Elab.async false
set_option linter.all false
set_option maxRecDepth 100000
set_option maxHeartbeats 2000000
namespace Pu
open PySem PySem.Spec PyProof.Rows L2
noncomputable def tupTwo (d : D) (k : D → D → SRes) : SRes := match d with
  | .tup [a, b] => k a b
  | _ => .bad
@[simp] theorem tupTwo_ap {a b : D} {k : D → D → SRes} : tupTwo (.tup [a, b]) k = k a b := id rfl
noncomputable def sSwap (fs : List (Ev D)) (g1 h1 g2 h2 : Ev D) : Stm := fun e S => (eTup fs e S).stm e fun d S => tupTwo d fun d1 d2 => (g1 e S).stm e fun o1 S => (h1 e S).stm e fun i1 S => (match stD o1 i1 d1 S with
    | some S => (g2 e S).stm e fun o2 S => (h2 e S).stm e fun i2 S => (match stD o2 i2 d2 S with
      | some S => .next e S
      | none => .bad)
    | none => .bad)
section
variable {cl : Str → Addr} {W : WX} {X : Cx} {a b1 c1 b2 c2 : Expr} {fs : List (Ev D)} {g1 h1 g2 h2 : Ev D} {pos p1 p2 pt : Pos} {k2 : Nat}
@[simp] theorem ap_Swap {e : En} {S : Sto} : sSwap fs g1 h1 g2 h2 e S = (eTup fs e S).stm e fun d S => tupTwo d fun d1 d2 => (g1 e S).stm e fun o1 S => (h1 e S).stm e fun i1 S => (match stD o1 i1 d1 S with
    | some S => (g2 e S).stm e fun o2 S => (h2 e S).stm e fun i2 S => (match stD o2 i2 d2 S with
      | some S => .next e S
      | none => .bad)
    | none => .bad) := id rfl
end
noncomputable def eSel (f : Ev D) (F0 F1 : List D → Sto → Res D) (fs : List (Ev D)) : Ev D := fun e S => (f e S).bind fun d S => match d with
  | .int i => (match atI [F0, F1] i with
    | some F => (eArgs fs e S).bind F
    | none => .bad)
  | _ => .bad
section
variable {cl : Str → Addr} {W : WX} {X : Cx} {a b : Expr} {es : List Expr} {f : Ev D} {fs : List (Ev D)} {pos p0 p1 pl ps' : Pos} {x0 x1 : Str}
@[simp] theorem ap_Sel {F0 F1 : List D → Sto → Res D} {e : En} {S : Sto} : eSel f F0 F1 fs e S = (f e S).bind fun d S => match d with
  | .int i => (match atI [F0, F1] i with
    | some F => (eArgs fs e S).bind F
    | none => .bad)
  | _ => .bad := id rfl
end
end Pu
set_option Elab.async false
set_option linter.all false
set_option maxRecDepth 100000
set_option maxHeartbeats 2000000
namespace Pu
open PySem PySem.Spec PyProof.Rows L2
theorem allSome_at {α : Type} : ∀ {l : List (Option α)} {r : List α} {k : Nat} {x : α}, allSome l = some r → r[k]? = some x → l[k]? = some (some x)
  | [], r, k, x, h, hx => by cases h; cases hx
  | none :: _, _, _, _, h, _ => by cases h
  | some a :: l, r, k, x, h, hx => by
    have h : (allSome l).map (a :: ·) = some r := h
    cases e : allSome l with
    | none => rw [e] at h; cases h
    | some r2 =>
      rw [e] at h
      cases h
      cases k with
      | zero => cases hx; rfl
      | succ k => exact allSome_at (l := l) e hx
theorem allSome_len {α : Type} : ∀ {l : List (Option α)} {r : List α}, allSome l = some r → r.length = l.length
  | [], r, h => by cases h; rfl
  | none :: _, _, h => by cases h
  | some a :: l, r, h => by
    have h : (allSome l).map (a :: ·) = some r := h
    cases e : allSome l with
    | none => rw [e] at h; cases h
    | some r2 =>
      rw [e] at h
      cases h
      rw [List.length_cons, List.length_cons, allSome_len e]
noncomputable def frzO (S S1 : Sto) (k : Nat) (o : DO) : Option DO := @ite _ (S[k]? = some o ∨ o.bel S.length = true) (Classical.propDecidable _) (some o) (match o with
  | .lst xs => (allSome (xs.map (frzV S.length S1 6))).map .lst
  | _ => none)
noncomputable def frzS (S S1 : Sto) : Option Sto := allSome ((List.range S.length).map fun k => (S1[k]?).bind (frzO S S1 k))
noncomputable def frzX (n : Nat) (S : Sto) (x : Option D) : Option (Option D) := match x with
  | none => some none
  | some d => (frzV n S 6 d).map some
noncomputable def frz2 (r1 : Option En) (r2 : Option Sto) : SRes := match r1, r2 with
  | some e2, some S2 => .next e2 S2
  | _, _ => .bad
noncomputable def cutR (S : Sto) (r : SRes) : SRes := match r with
  | .next e1 S1 => frz2 (allSome (e1.map (frzX S.length S1))) (frzS S S1)
  | r => r
/-- what comes up in it is held by its data at its end -/
noncomputable def sCutB (u : Stm) : Stm := fun e S => cutR S (u e S)
section
variable {K : PySem.W.Frag} {cl : Str → Addr} {W : WX} {am am' : AM} {H H' : Hp} {S S' S2 : Sto} {σ : L2.St}
theorem OR.frz {k : Nat} (rs : RelS K cl am S H) (rs' : RelS K cl am' S' H') {a : Addr} {o o' : DO} (h : OR K cl am' H' a o) (q : frzO S S' k o = some o') : OR K cl (am'.cut S.length [] rs'.nd) H' a o' := by
  unfold frzO at q
  split at q
  · rename_i hb
    cases q
    refine h.cut rs'.nd ?_
    rcases hb with hb | hb
    · obtain ⟨b, _, ho⟩ := rs.has hb
      have := ho.bel
      rw [rs.len] at this
      exact this
    · exact hb
  · cases o with
    | lst xs =>
      simp only at q
      cases e : allSome (xs.map (frzV S.length S' 6)) with
      | none => rw [e] at q; cases q
      | some ys =>
        rw [e] at q
        cases q
        obtain ⟨vs, h1, h2⟩ := h
        exact ⟨vs, h1, allSome_VRs (fun d v d' => VR.frz rs' 6 d v d') h2 e⟩
    | dct xs => cases q
    | ins c fs => cases q
    | fdc _ _ _ => cases q
theorem RelS.frz (g : Grow am am' H H') (rs : RelS K cl am S H) (rs' : RelS K cl am' S' H') (h : frzS S S' = some S2) : RelS K cl (am'.cut S.length [] rs'.nd) S2 H' := by
  have hle : S.length ≤ S'.length := by
    obtain ⟨r, e⟩ := g.pre
    rw [← rs.len, ← rs'.len, e, List.length_append]
    omega
  have hl2 := allSome_len h
  rw [List.length_map, List.length_range] at hl2
  refine ⟨?_, rs'.nd.sublist (List.take_sublist _ _), fun k o a h1 h2 => ?_, fun a ha => rs'.there a (List.mem_filter.mp ha).1⟩
  · show (am'.ad.take S.length).length = _
    rw [hl2, List.length_take, rs'.len]
    omega
  · have hk : k < S.length := by
      rw [← hl2]
      exact (List.getElem?_eq_some_iff.mp h1).1
    have q := allSome_at h h1
    rw [List.getElem?_map, List.getElem?_range hk] at q
    have q : (S'[k]?).bind (frzO S S' k) = some o := Option.some.inj q
    obtain ⟨o', e1, e2⟩ := Option.bind_eq_some_iff.mp q
    have h2 : (am'.ad.take S.length)[k]? = some a := h2
    rw [List.getElem?_take_of_lt hk] at h2
    exact OR.frz rs rs' (rs'.ob k o' a e1 h2) e2
theorem RelE.frz {n : Nat} (rs : RelS K cl am S H) {e e2 : En} (re : RelE K am H e σ) (h : allSome (e.map (frzX n S)) = some e2) : RelE K (am.cut n [] rs.nd) H e2 σ := by
  refine ⟨by rw [allSome_len h, List.length_map]; exact re.len, fun i d hd => ?_⟩
  have q := allSome_at h hd
  rw [List.getElem?_map] at q
  obtain ⟨x, e1, e3⟩ := Option.map_eq_some_iff.mp q
  cases x with
  | none => cases e3
  | some d0 =>
    have e3 : (frzV n S 6 d0).map some = some (some d) := e3
    obtain ⟨d1, e4, e5⟩ := Option.map_eq_some_iff.mp e3
    cases e5
    obtain ⟨v, h1, h2⟩ := re.get i d0 e1
    exact ⟨v, h1, VR.frz rs 6 d0 v d h2 e4⟩
end
section
variable {cl : Str → Addr} {W : WX} {X : Cx} {ss : List Stmt} {u : Stm}
@[simp] theorem ap_CutB {e : En} {S : Sto} : sCutB u e S = cutR S (u e S) := id rfl
end
noncomputable def pick3 {α : Type} (xs : List α) : List α := ((xs.take (xs.length - 3)).drop 1).reverse
section
variable {cl : Str → Addr} {W : WX} {X : Cx} {a : Expr} {f : Ev D} {pos : Pos}
noncomputable def pk3D (d : D) (S : Sto) : Res D := match lsOf S d with
  | some xs => .ok (.lst (pick3 xs)) S
  | none => .bad
@[simp] theorem pk3D_lst {xs : List D} {S : Sto} : pk3D (.lst xs) S = .ok (.lst (pick3 xs)) S := id rfl
end
end Pu
set_option Elab.async false
set_option linter.all false
set_option maxRecDepth 100000
namespace Pu
open PySem PySem.Spec PyProof.Rows L2
end Pu
set_option Elab.async false
set_option linter.all false
set_option maxRecDepth 100000
set_option maxHeartbeats 2000000
namespace Pu
open PySem PySem.Spec PyProof.Rows L2
noncomputable def lookS (tbl : List (Str × Int)) (k : Str) : Option Int := match tbl with
  | [] => none
  | (x, i) :: r => if k = x then some i else lookS r k
section
variable {cl : Str → Addr} {W : WX} {X : Cx} {e : Expr} {f : Ev D} {x : Str} {p0 apos cpos : Pos} {tbl : List (Str × Int)}
noncomputable def optD : Option Int → D
  | none => .non
  | some i => .int i
noncomputable def ggetD (tbl : List (Str × Int)) (d : D) (S : Sto) : Res D := match d with
  | .str k => .ok (optD (lookS tbl k)) S
  | _ => .bad
@[simp] theorem ggetD_str {k : Str} {S : Sto} : ggetD tbl (.str k) S = .ok (optD (lookS tbl k)) S := id rfl
end
end Pu
set_option Elab.async false
set_option linter.all false
set_option maxRecDepth 100000
set_option maxHeartbeats 2000000
namespace Pu
open PySem PySem.Spec PyProof.Rows L2
/-- d[k] of a dict that stands still -/
noncomputable def ixF (d i : D) (S : Sto) : Res D := match d with
  | .ref n => match S[n]? with
    | some (.fdc _ _ kvs) => match keyOf i with
      | some k => opt (getK kvs k) S
      | none => .bad
    | _ => .bad
  | _ => .bad
section
variable {cl : Str → Addr} {W : WX} {X : Cx} {a b tgE : Expr} {f g : Ev D} {pos : Pos} {K : PySem.W.Frag}
theorem qe_ixF {k : Nat} (hr : Room k X.A) (ha : QE cl W X a f) (hb : QE cl W X b g) (hs : PlainIx b := by intro _ _; rfl) : QE cl W X (.Subscript a b pos) (e2 ixF f g) :=
  (pe_ix (ix_seq.or (ix_key (hu_of hr))) ha hb hs).imp (imp_2 fun W σ am S H d e v u Q rs h1 h2 p => by
    unfold ixF at p
    cases h1 with
    | @ref n l hn =>
      simp only at p
      cases q : S[n]? with
      | none => rw [q] at p; exact p.elim
      | some ob =>
        rw [q] at p
        cases ob with
        | fdc od us kvs =>
          obtain ⟨r1, hk⟩ := rs.ob n _ l q hn
          simp only at p
          cases q2 : keyOf e with
          | none => rw [q2] at p; exact p.elim
          | some ky =>
            rw [q2] at p
            simp only at p
            have eu := keyOf_ok h2 q2
            rcases hk.get ky with ⟨g1, g2⟩ | ⟨d', v', g1, g2, rv⟩
            · rw [g1] at p; exact p.elim
            · rw [g1] at p
              exact .inr ⟨l, v', rfl, .inl ⟨us, ky, .inr ⟨od, r1⟩, eu, g2.symm⟩, p am v' H .refl rs rv⟩
        | _ => exact p.elim
    | _ => exact p.elim)
noncomputable def iKy (i : Nat) : Ev Src := fun e S => match e[i]? with
  | some (some (.ref n)) => match S[n]? with
    | some (.fdc od vs kvs) => .ok (.fk n od vs kvs) S
    | _ => .bad
  | _ => .bad
theorem kyD_ok {am : AM} {H : Hp} (k : Key) : VR K am H (kyD k) (kV k) := by
  cases k with
  | inl i => exact .int i
  | inr x => exact .str x
theorem VRk.keyAt {am : AM} {H : Hp} : ∀ {ds : List (Key × D)} {vs : List (Key × V)} (i : Nat), VRk K am H ds vs → (ds.map fun p => p.1)[i]? = (vs.map fun p => p.1)[i]?
  | _, _, _, .nil => rfl
  | _, _, 0, .cons _ _ => rfl
  | _, _, i + 1, .cons _ t => by
    rw [List.map_cons, List.map_cons, List.getElem?_cons_succ, List.getElem?_cons_succ]
    exact VRk.keyAt i t
theorem qi_ky {i : Nat} {x : Str} (hN : X.N[i]? = some x) (hv : Vis X.env.scope x) (hd : (x == ("__debug__" : Str)) = false := by decide) (hcd : (x == ("__classdict__" : Str)) = false := by decide) : QI cl W X tgE (.Name x pos) (iKy i) :=
  (pi_keys (pe_var hN hv hd hcd)).imp fun σ H R ⟨am, e, S, rs, re, p⟩ => by
    unfold iKy at p
    cases q1 : e[i]? with
    | none => rw [q1] at p; exact p.elim
    | some o =>
      cases o with
      | none => rw [q1] at p; exact p.elim
      | some d =>
        rw [q1] at p
        obtain ⟨v, hv1, rv⟩ := re.get i d q1
        cases rv with
        | @ref n l hn =>
          simp only at p
          cases q : S[n]? with
          | none => rw [q] at p; exact p.elim
          | some ob =>
            rw [q] at p
            cases ob with
            | fdc od us kvs =>
              obtain ⟨r1, hk⟩ := rs.ob n _ l q hn
              refine ⟨.ref l, hv1, l, od, rfl, .inl ⟨us, r1, p am _ H .refl rs fun am' H' S' g rs' hs => ?_⟩⟩
              obtain ⟨r1', hk'⟩ := rs'.ob n _ l hs (g.get hn)
              have hl : kvs.length = us.length := hk'.length
              refine ⟨fun j d hd => ?_, fun j hj => ⟨r1', by simp only [Src.items, List.length_map] at hj; omega⟩⟩
              have hd : (kvs.map fun p => kyD p.1)[j]? = some d := hd
              have hj : j < kvs.length := by
                have := (List.getElem?_eq_some_iff.mp hd).1
                simpa using this
              refine ⟨⟨r1', by omega⟩, fun x H2 hy => ?_⟩
              obtain ⟨rfl, ky, v, e1, rfl⟩ := hy
              refine ⟨am', .refl, rs', ?_⟩
              have e2 := VRk.keyAt j hk'
              rw [List.getElem?_map, List.getElem?_map, e1] at e2
              rw [List.getElem?_map] at hd
              cases e3 : kvs[j]? with
              | none => rw [e3] at e2; cases e2
              | some pr =>
                rw [e3] at e2 hd
                cases hd
                have e4 : pr.1 = ky := Option.some.inj e2
                show VR X.K am' H2 (kyD pr.1) (kV ky)
                rw [e4]
                exact kyD_ok ky
            | _ => exact p.elim
        | _ => exact p.elim
end
/-- .. and unlocked behind it -/
noncomputable def unlk (n : Nat) (od : Obj) (vs : List (Key × V)) (kvs : List (Key × D)) (r : SRes) : SRes := match r with
  | .next e S => @ite _ (S[n]? = some (.fdc od vs kvs)) (Classical.propDecidable _) (.next e (S.set n (.dct kvs))) .bad
  | .ret d S => @ite _ (S[n]? = some (.fdc od vs kvs)) (Classical.propDecidable _) (.ret d (S.set n (.dct kvs))) .bad
  | _ => .bad
noncomputable def forL (dead : List Nat) (tg : Tg) (i : Nat) (body : Stm) (n : Nat) (kvs : List (Key × D)) (od : Obj) (vs : List (Key × V)) (e : En) (S : Sto) : SRes := unlk n od vs kvs (sFor dead tg (iKy i) body e (S.set n (.fdc od vs kvs)))
noncomputable def sForK (dead : List Nat) (tg : Tg) (i : Nat) (body : Stm) : Stm := fun e S => match e[i]? with
  | some (some (.ref n)) => match S[n]? with
    | some (.dct kvs) => @dite _ (∃ r, ∀ od vs, forL dead tg i body n kvs od vs e S = r) (Classical.propDecidable _) (fun h => Classical.choose h) (fun _ => .bad)
    | _ => .bad
  | _ => .bad
theorem forK_eq {dead : List Nat} {tg : Tg} {i n : Nat} {body : Stm} {e : En} {S : Sto} {kvs : List (Key × D)} {r : SRes} (h1 : e[i]? = some (some (.ref n))) (h2 : S[n]? = some (.dct kvs))
    (h : ∀ od vs, forL dead tg i body n kvs od vs e S = r) : sForK dead tg i body e S = r := by
  have hx : ∃ r, ∀ od vs, forL dead tg i body n kvs od vs e S = r := ⟨r, h⟩
  unfold sForK
  rw [h1]
  simp only [h2]
  rw [dif_pos hx]
  have q := Classical.choose_spec hx default []
  rw [← q]
  exact h _ _
section
variable {cl : Str → Addr} {W : WX} {X : Cx} {tgE : Expr} {body : List Stmt} {pos p' : Pos} {tg : Tg} {u : Stm} {i : Nat} {x : Str}
theorem PostS.unlk {K : PySem.W.Frag} {am : AM} {H : Hp} {r : SRes} {E : Ends} {n : Nat} {l : Addr} {od : Obj} {vs : List (Key × V)} {kvs : List (Key × D)} (hn : am.ad[n]? = some l) (hl : l ∈ am.ad)
    (p : PostS K cl W am H (Pu.unlk n od vs kvs r) E) : PostS K cl W am (upd H l (.frz od (.dK vs))) r
      ⟨fun σ' H' => H' l = some (.frz od (.dK vs)) ∧ E.nx σ' (upd H' l (.dK vs)), fun v H' => H' l = some (.frz od (.dK vs)) ∧ E.rt v (upd H' l (.dK vs)), fun σ' H' => H' l = some (.frz od (.dK vs)) ∧ E.bk σ' (upd H' l (.dK vs)), fun σ' H' => H' l = some (.frz od (.dK vs)) ∧ E.ct σ' (upd H' l (.dK vs))⟩ := by
  have back : ∀ {am' : AM} {H' : Hp} {S : Sto}, Grow am am' (upd H l (.frz od (.dK vs))) H' → RelS K cl am' S H' → S[n]? = some (.fdc od vs kvs) →
      H' l = some (.frz od (.dK vs)) ∧ Grow am' am' H' (upd H' l (.dK vs)) ∧ Grow am am' H (upd H' l (.dK vs)) ∧ RelS K cl am' (S.set n (.dct kvs)) (upd H' l (.dK vs)) := fun {am' H' S} g rs q => by
    have hn' := g.get hn
    obtain ⟨h1, h2⟩ := rs.ob n _ l q hn'
    have hm : l ∈ am'.ad := List.mem_of_getElem? hn'
    have gp : Grow am' am' H' (upd H' l (.dK vs)) := Grow.put hm
    exact ⟨h1, gp, ((Grow.put hl).trans g).trans gp, rs.put hn' ⟨vs, upd_same, h2.mono gp⟩⟩
  cases r with
  | next e S =>
    intro am' σ H' g rs re
    have p : PostS K cl W am H (@ite _ (S[n]? = some (.fdc od vs kvs)) (Classical.propDecidable _) (.next e (S.set n (.dct kvs))) .bad) E := p
    by_cases q : S[n]? = some (.fdc od vs kvs)
    · rw [if_pos q] at p
      obtain ⟨a, b, c, d⟩ := back g rs q
      exact ⟨a, p am' σ _ c d (re.mono b)⟩
    · rw [if_neg q] at p
      exact p.elim
  | ret d0 S =>
    intro am' v H' g rs rv
    have p : PostS K cl W am H (@ite _ (S[n]? = some (.fdc od vs kvs)) (Classical.propDecidable _) (.ret d0 (S.set n (.dct kvs))) .bad) E := p
    by_cases q : S[n]? = some (.fdc od vs kvs)
    · rw [if_pos q] at p
      obtain ⟨a, b, c, d⟩ := back g rs q
      exact ⟨a, p am' v _ c d (rv.mono b)⟩
    · rw [if_neg q] at p
      exact p.elim
  | _ => exact p.elim
theorem qs_forK (dead : List Nat) (hp : PassesOwn (model X.prog X.w) X.A X.env X.xe) (hc : X.calm = true) (hN : X.N[i]? = some x) (hv : Vis X.env.scope x) (hg : QG cl X tgE tg) (hb : QB cl W X body u)
    (hd : (x == ("__debug__" : Str)) = false := by decide) (hcd : (x == ("__classdict__" : Str)) = false := by decide) (hs : ∀ y, foldedSetIterable (.Name x p') X.env y = pure y := by intro _; rfl) :
    QS cl W X (.For tgE (.Name x p') body [] pos) (sForK dead tg i u) := (ps_lock (qs_for dead hp hc (qi_ky hN hv hd hcd) hg hb hs)).imp fun E σ H ⟨am, e, S, rs, re, p⟩ => by
  unfold sForK at p
  cases q1 : e[i]? with
  | none => rw [q1] at p; exact p.elim
  | some o =>
    cases o with
    | none => rw [q1] at p; exact p.elim
    | some d =>
      rw [q1] at p
      obtain ⟨v, hv1, rv⟩ := re.get i d q1
      cases rv with
      | @ref n l hn =>
        simp only at p
        cases q : S[n]? with
        | none => rw [q] at p; exact p.elim
        | some ob =>
          rw [q] at p
          cases ob with
          | dct kvs =>
            simp only at p
            by_cases hx : ∃ r, ∀ od vs, forL dead tg i u n kvs od vs e S = r
            · rw [dif_pos hx] at p
              have sp := Classical.choose_spec hx
              generalize Classical.choose hx = r at p sp
              obtain ⟨vs, h1, h2⟩ := rs.ob n _ l q hn
              have hm : l ∈ am.ad := List.mem_of_getElem? hn
              refine ⟨l, _, h1, trivial, fun od => ?_⟩
              have gp : Grow am am H (upd H l (.frz od (.dK vs))) := Grow.put hm
              refine ⟨am, e, S.set n (.fdc od vs kvs), rs.put hn ⟨upd_same, h2.mono gp⟩, re.mono gp, PostS.unlk (kvs := kvs) hn hm ?_⟩
              have e1 := sp od vs
              unfold forL at e1
              rw [e1]
              exact p
            · rw [dif_neg hx] at p
              exact p.elim
          | _ => exact p.elim
      | _ => exact p.elim
end
end Pu
set_option Elab.async false
set_option linter.all false
set_option maxRecDepth 100000
namespace Pu
open PySem PySem.Spec PyProof.Rows L2
theorem forR1i {dead : List Nat} {tg : Tg} {f : Ev D} {a : Stm} {e : En} {S : Sto} {i : Int} (hf : f e S = .ok (.int i) S) (h0 : -1000000 < i) (h : i < 1048576) : sFor dead tg (iR1 f) a e S = forD dead tg (.tmp (rngD 0 i)) a (rngD 0 i) e S := by
  rw [ap_For, ap_iR1, hf, Res.bind_ok, srcR1_ap, if_pos (by unfold Rg62; omega), Res.stm_ok]
  rfl
theorem while_end {dead : List Nat} {t : Ev Bool} {body : Stm} {e : En} {S : Sto} (h : t e S = .ok false S) : whileN dead t body 1 e S = .next e S := by
  unfold whileN
  rw [h]
end Pu
set_option Elab.async false
set_option linter.all false
set_option maxRecDepth 100000
set_option maxHeartbeats 4000000
namespace Lw
open PySem PySem.Spec PyProof.Rows L2 Pu
section
variable {p : List Value → Prop}
theorem us1 (h : ∀ a0, p [a0]) : ∀ us : List Value, us.length = 1 → p us
  | [_], _ => h _
theorem us2 (h : ∀ a0 a1, p [a0, a1]) : ∀ us : List Value, us.length = 2 → p us
  | [_, _], _ => h _ _
theorem us3 (h : ∀ a0 a1 a2, p [a0, a1, a2]) : ∀ us : List Value, us.length = 3 → p us
  | [_, _, _], _ => h _ _ _
theorem us4 (h : ∀ a0 a1 a2 a3, p [a0, a1, a2, a3]) : ∀ us : List Value, us.length = 4 → p us
  | [_, _, _, _], _ => h _ _ _ _
theorem us5 (h : ∀ a0 a1 a2 a3 a4, p [a0, a1, a2, a3, a4]) : ∀ us : List Value, us.length = 5 → p us
  | [_, _, _, _, _], _ => h _ _ _ _ _
end
noncomputable def topS (i : Nat) : Stmt := PySem.Challenge.pw_walkframe_k32_frames_letter_by_letter.main.body.getD i (.Pass ⟨0, 0, 0, 0⟩)
structure Bt (K : PySem.W.Frag) (mg : Str → Option Value) : Prop where
  dict : mg "dict" = none
  int : mg "int" = none
  len : mg "len" = none
  list : mg "list" = none
  max : mg "max" = none
  min : mg "min" = none
  range : mg "range" = none
  set : mg "set" = none
  sorted : mg "sorted" = none
  sum : mg "sum" = none
  tuple : mg "tuple" = none
structure Er (K : PySem.W.Frag) (mg : Str → Option Value) (cl : Str → Addr) : Prop where
  c_NoBin : ClsE K mg cl "NoBin"
  c_NotDone : ClsE K mg cl "NotDone"
  g_NoBin : mg "NoBin" = some (.ref (cl "NoBin"))
  g_NotDone : mg "NotDone" = some (.ref (cl "NotDone"))
  s_NotDone_NotDone : PySem.W.subIn K (.ref (cl "NotDone")) (.ref (cl "NotDone")) = some true
structure Kl (K : PySem.W.Frag) (mg : Str → Option Value) (cl : Str → Addr) : Prop where
  c_Frame : Cls K (cl "Frame")
  m_Frame : ClsM K mg cl "Frame"
  n_Frame_bins : NoAttr K (cl "Frame") "bins"
  n_Frame_left : NoAttr K (cl "Frame") "left"
  n_Frame_lying : NoAttr K (cl "Frame") "lying"
  n_Frame_many : NoAttr K (cl "Frame") "many"
  n_Frame_out : NoAttr K (cl "Frame") "out"
  n_Frame_room : NoAttr K (cl "Frame") "room"
section
variable {P : Program} {w : World} {K : PySem.W.Frag} {mg : Str → Option Value} {base : Heap} {cl : Str → Addr}
noncomputable abbrev sheap : Stmt := topS 5
theorem cheap : FnScope ["rows", "found", "key", "many"] ["rows"] (defScope sheap) := ⟨rfl, rfl, rfl, by decide +kernel, rfl, by decide +kernel, by decide +kernel⟩
noncomputable def bheap_1 : Stm := (sIf (tAndD (eTB (e2 gtD (eVar 3) (eC (.int 0)))) (tAndD (eTB (e2 (eqD true) (eVar 1) (eAno (nLst [])))) (eTB (e2 (eqD false) (e2 ixD (e2 ixD (eVar 1) (e1 negD (eC (.int 1)))) (eC (.int 0))) (eVar 2))))) (sSt (eTup [(eVar 2), (e2 addD (e2 ixD (e2 ixD (eVar 1) (e1 negD (eC (.int 1)))) (eC (.int 1))) (eVar 3))]) (eVar 1) (e1 negD (eC (.int 1)))) (sIf (eTB (e2 gtD (eVar 3) (eC (.int 0)))) (sExpr (eM "list" appD (eVar 1) [(eTup [(eVar 2), (eVar 3)])])) sNext))
noncomputable def bheap : Stm := (sSeq (sSet 1 (eNew (nLst [])))
    (sSeq (sFgt [2, 3] (sFor [2, 3] (.tp [(.nm 2), (.nm 3)]) (iS (eVar 0)) bheap_1))
    (sRet (eCall tupD [(eVar 1)]))))
noncomputable def Fheap : List D → Sto → Res D := runD .frz 4 bheap
theorem kheap (T : Bt K mg) (Ee : Er K mg cl) (Kk : Kl K mg cl) (I : DefIn K mg "heap" sheap ["rows"])  : DefOk P w K mg base cl "heap" 1 ["rows"] Fheap := by
  refine def_ok (k := 0) I cheap fun f cdv A outer s H E hr => ?_
  have nd := cheap.nd
  have tk : L2N.Takes (cxOf (L2N.CX P w) P w K mg base ["rows", "found", "key", "many"] "heap" (defScope sheap) f cdv A outer s H E) (fun c d _ H => E c d H)   := L2N.takes_of rfl rfl rfl rfl
  have hp : PassesOwn (model P w) (cxOf (L2N.CX P w) P w K mg base ["rows", "found", "key", "many"] "heap" (defScope sheap) f cdv A outer s H E).A (cxOf (L2N.CX P w) P w K mg base ["rows", "found", "key", "many"] "heap" (defScope sheap) f cdv A outer s H E).env (cxOf (L2N.CX P w) P w K mg base ["rows", "found", "key", "many"] "heap" (defScope sheap) f cdv A outer s H E).xe := passes_of rfl
  exact (qb_cons (qs_set nd rfl (by first | exact Or.inl rfl | exact Or.inr rfl) (qe_new (qn_lst qa_nil)))
    (qb_cons (qs_fgt [2, 3] (qs_for [2, 3] hp rfl (qi_s (qv 0)) (qg_tp rfl (qgs_cons (qg_nm nd rfl (by first | exact Or.inl rfl | exact Or.inr rfl)) (qgs_cons (qg_nm nd rfl (by first | exact Or.inl rfl | exact Or.inr rfl)) qgs_nil)) rfl)
    (qb_one (qs_if (PW.pt (qw_and (qt_gt (qv 3) qe_int) (qw_and (qt_ne hr (qv 1) (qe_ano (qn_lst qa_nil))) (qw_and1 (qt_eq hr (qe_ix hr (qe_ix hr (qv 1) (qe_neg qe_int)) qe_int) (qv 2)))))) (qb_one (qs_st hr (qe_tup (qa_cons (qv 2) (qa_cons (qe_add (qe_ix hr (qe_ix hr (qv 1) (qe_neg qe_int)) qe_int) (qv 3)) qa_nil))) (qv 1) (qe_neg qe_int))) (qb_one (qs_if (qt_gt (qv 3) qe_int) (qb_one (qs_expr (qe_append (qv 1) (qe_tup (qa_cons (qv 2) (qa_cons (qv 3) qa_nil)))))) qb_nil))))))
    (qb_one (qs_ret (qe_tuple (by rfl) T.tuple (qa_cons (qv 1) qa_nil))))))
noncomputable abbrev sletters_in : Stmt := topS 6
theorem cletters_in : FnScope ["one", "key", "many"] ["one"] (defScope sletters_in) := ⟨rfl, rfl, rfl, by decide +kernel, rfl, by decide +kernel, by decide +kernel⟩
noncomputable def bletters_in : Stm := (sRet (eCall (intsD fun ns => .int ns.sum) [(eAno (nLc [1, 2] (.tp [(.nm 1), (.nm 2)]) (iS (eVar 0)) tYesD (eVar 2)))]))
noncomputable def Fletters_in : List D → Sto → Res D := runD .frz 3 bletters_in
theorem kletters_in (T : Bt K mg) (Ee : Er K mg cl) (Kk : Kl K mg cl) (I : DefIn K mg "letters_in" sletters_in ["one"])  : DefOk P w K mg base cl "letters_in" 1 ["one"] Fletters_in := by
  refine def_ok (k := 0) I cletters_in fun f cdv A outer s H E hr => ?_
  have nd := cletters_in.nd
  have tk : L2N.Takes (cxOf (L2N.CX P w) P w K mg base ["one", "key", "many"] "letters_in" (defScope sletters_in) f cdv A outer s H E) (fun c d _ H => E c d H)   := L2N.takes_of rfl rfl rfl rfl
  have hp : PassesOwn (model P w) (cxOf (L2N.CX P w) P w K mg base ["one", "key", "many"] "letters_in" (defScope sletters_in) f cdv A outer s H E).A (cxOf (L2N.CX P w) P w K mg base ["one", "key", "many"] "letters_in" (defScope sletters_in) f cdv A outer s H E).env (cxOf (L2N.CX P w) P w K mg base ["one", "key", "many"] "letters_in" (defScope sletters_in) f cdv A outer s H E).xe := passes_of rfl
  exact (qb_one (qs_ret (qe_sum rfl (by rfl) T.sum (qa_cons (qe_ano (qn_lc (own := [("key", 1), ("many", 2)]) rfl nd (qi_s (qv 0)) (blkOk_by (by rfl)) (by decide) (fun _ _ _ _ _ => (qg_tp rfl (qgs_cons (qg_nm nd rfl (by first | exact Or.inl rfl | exact Or.inr rfl)) (qgs_cons (qg_nm nd rfl (by first | exact Or.inl rfl | exact Or.inr rfl)) qgs_nil)) rfl)) (fun _ _ _ _ _ => qts_nil) (fun _ _ _ _ _ => (qv 2)))) qa_nil))))
noncomputable abbrev skeys_of : Stmt := topS 7
theorem ckeys_of : FnScope ["one", "key", "many"] ["one"] (defScope skeys_of) := ⟨rfl, rfl, rfl, by decide +kernel, rfl, by decide +kernel, by decide +kernel⟩
noncomputable def bkeys_of : Stm := (sRet (eCall tupD [(eAno (nSSet (eAno (nLc [1, 2] (.tp [(.nm 1), (.nm 2)]) (iS (eVar 0)) tYesD (eVar 1)))))]))
noncomputable def Fkeys_of : List D → Sto → Res D := runD .frz 3 bkeys_of
theorem kkeys_of (T : Bt K mg) (Ee : Er K mg cl) (Kk : Kl K mg cl) (I : DefIn K mg "keys_of" skeys_of ["one"])  : DefOk P w K mg base cl "keys_of" 1 ["one"] Fkeys_of := by
  refine def_ok (k := 0) I ckeys_of fun f cdv A outer s H E hr => ?_
  have nd := ckeys_of.nd
  have tk : L2N.Takes (cxOf (L2N.CX P w) P w K mg base ["one", "key", "many"] "keys_of" (defScope skeys_of) f cdv A outer s H E) (fun c d _ H => E c d H)   := L2N.takes_of rfl rfl rfl rfl
  have hp : PassesOwn (model P w) (cxOf (L2N.CX P w) P w K mg base ["one", "key", "many"] "keys_of" (defScope skeys_of) f cdv A outer s H E).A (cxOf (L2N.CX P w) P w K mg base ["one", "key", "many"] "keys_of" (defScope skeys_of) f cdv A outer s H E).env (cxOf (L2N.CX P w) P w K mg base ["one", "key", "many"] "keys_of" (defScope skeys_of) f cdv A outer s H E).xe := passes_of rfl
  exact (qb_one (qs_ret (qe_tuple (by rfl) T.tuple (qa_cons (qe_ano (qn_sset rfl (by rfl) T.sorted (by rfl) T.set (qe_ano (qn_lc (own := [("key", 1), ("many", 2)]) rfl nd (qi_s (qv 0)) (blkOk_by (by rfl)) (by decide) (fun _ _ _ _ _ => (qg_tp rfl (qgs_cons (qg_nm nd rfl (by first | exact Or.inl rfl | exact Or.inr rfl)) (qgs_cons (qg_nm nd rfl (by first | exact Or.inl rfl | exact Or.inr rfl)) qgs_nil)) rfl)) (fun _ _ _ _ _ => qts_nil) (fun _ _ _ _ _ => (qv 1)))))) qa_nil))))
noncomputable abbrev sjoined : Stmt := topS 8
theorem cjoined : FnScope ["one", "other"] ["one", "other"] (defScope sjoined) := ⟨rfl, rfl, rfl, by decide +kernel, rfl, by decide +kernel, by decide +kernel⟩
noncomputable def bjoined : Stm := (sRet (eFn Fheap [(e2 addD (eVar 0) (eVar 1))]))
noncomputable def Fjoined : List D → Sto → Res D := runD .frz 2 bjoined
theorem kjoined (T : Bt K mg) (Ee : Er K mg cl) (Kk : Kl K mg cl) (I : DefIn K mg "joined" sjoined ["one", "other"]) (Gheap : DefOk P w K mg base cl "heap" 1 ["rows"] Fheap) : DefOk P w K mg base cl "joined" 2 ["one", "other"] Fjoined := by
  refine def_ok (k := 1) I cjoined fun f cdv A outer s H E hr => ?_
  have nd := cjoined.nd
  have tk : L2N.Takes (cxOf (L2N.CX P w) P w K mg base ["one", "other"] "joined" (defScope sjoined) f cdv A outer s H E) (fun c d _ H => E c d H)   := L2N.takes_of rfl rfl rfl rfl
  have hp : PassesOwn (model P w) (cxOf (L2N.CX P w) P w K mg base ["one", "other"] "joined" (defScope sjoined) f cdv A outer s H E).A (cxOf (L2N.CX P w) P w K mg base ["one", "other"] "joined" (defScope sjoined) f cdv A outer s H E).env (cxOf (L2N.CX P w) P w K mg base ["one", "other"] "joined" (defScope sjoined) f cdv A outer s H E).xe := passes_of rfl
  exact (qb_one (qs_ret (qe_fn (Gheap.mono (by decide)) hr (by rfl) tk (qa_cons (qe_add (qv 0) (qv 1)) qa_nil))))
noncomputable abbrev sbins_by : Stmt := topS 10
theorem cbins_by : FnScope ["one", "table", "bins", "key"] ["one", "table"] (defScope sbins_by) := ⟨rfl, rfl, rfl, by decide +kernel, rfl, by decide +kernel, by decide +kernel⟩
noncomputable def bbins_by_1 : Stm := (sIf (eTB (e2 (inD true) (eVar 3) (eVar 2))) (sRaise "NoBin") sNext)
noncomputable def bbins_by : Stm := (sSeq (sSet 2 (eAno (nDctP (e2 ixD (eVar 1) (eC (.int 1))))))
    (sSeq (sFgt [3] (sFor [3] (.nm 3) (iS (eFn Fkeys_of [(eVar 0)])) bbins_by_1))
    (sRet (eVar 2))))
noncomputable def Fbins_by : List D → Sto → Res D := runD .frz 4 bbins_by
theorem kbins_by (T : Bt K mg) (Ee : Er K mg cl) (Kk : Kl K mg cl) (I : DefIn K mg "bins_by" sbins_by ["one", "table"]) (Gkeys_of : DefOk P w K mg base cl "keys_of" 1 ["one"] Fkeys_of) : DefOk P w K mg base cl "bins_by" 2 ["one", "table"] Fbins_by := by
  refine def_ok (k := 1) I cbins_by fun f cdv A outer s H E hr => ?_
  have nd := cbins_by.nd
  have tk : L2N.Takes (cxOf (L2N.CX P w) P w K mg base ["one", "table", "bins", "key"] "bins_by" (defScope sbins_by) f cdv A outer s H E) (fun c d _ H => E c d H)   := L2N.takes_of rfl rfl rfl rfl
  have hp : PassesOwn (model P w) (cxOf (L2N.CX P w) P w K mg base ["one", "table", "bins", "key"] "bins_by" (defScope sbins_by) f cdv A outer s H E).A (cxOf (L2N.CX P w) P w K mg base ["one", "table", "bins", "key"] "bins_by" (defScope sbins_by) f cdv A outer s H E).env (cxOf (L2N.CX P w) P w K mg base ["one", "table", "bins", "key"] "bins_by" (defScope sbins_by) f cdv A outer s H E).xe := passes_of rfl
  exact (qb_cons (qs_set nd rfl (by first | exact Or.inl rfl | exact Or.inr rfl) (qe_ano (qn_dctP rfl (by rfl) T.dict (qe_ix hr (qv 1) qe_int))))
    (qb_cons (qs_fgt [3] (qs_for [3] hp rfl (qi_s (qe_fn (Gkeys_of.mono (by decide)) hr (by rfl) tk (qa_cons (qv 0) qa_nil))) (qg_nm nd rfl (by first | exact Or.inl rfl | exact Or.inr rfl))
    (qb_one (qs_if (qt_notIn hr (qv 3) (qv 2)) (qb_one (qs_raise rfl tk Ee.c_NoBin (by rfl))) qb_nil))))
    (qb_one (qs_ret (qv 2)))))
noncomputable abbrev sneed_bin : Stmt := topS 11
theorem cneed_bin : FnScope ["number", "many"] ["number", "many"] (defScope sneed_bin) := ⟨rfl, rfl, rfl, by decide +kernel, rfl, by decide +kernel, by decide +kernel⟩
noncomputable def bneed_bin : Stm := (sIf (tNotD (eTB (eCh leD ltD (eC (.int 0)) (eVar 0) (eVar 1)))) (sRaise "NoBin") sNext)
noncomputable def Fneed_bin : List D → Sto → Res D := runD .frz 2 bneed_bin
theorem kneed_bin (T : Bt K mg) (Ee : Er K mg cl) (Kk : Kl K mg cl) (I : DefIn K mg "need_bin" sneed_bin ["number", "many"])  : DefOk P w K mg base cl "need_bin" 1 ["number", "many"] Fneed_bin := by
  refine def_ok (k := 0) I cneed_bin fun f cdv A outer s H E hr => ?_
  have nd := cneed_bin.nd
  have tk : L2N.Takes (cxOf (L2N.CX P w) P w K mg base ["number", "many"] "need_bin" (defScope sneed_bin) f cdv A outer s H E) (fun c d _ H => E c d H)   := L2N.takes_of rfl rfl rfl rfl
  have hp : PassesOwn (model P w) (cxOf (L2N.CX P w) P w K mg base ["number", "many"] "need_bin" (defScope sneed_bin) f cdv A outer s H E).A (cxOf (L2N.CX P w) P w K mg base ["number", "many"] "need_bin" (defScope sneed_bin) f cdv A outer s H E).env (cxOf (L2N.CX P w) P w K mg base ["number", "many"] "need_bin" (defScope sneed_bin) f cdv A outer s H E).xe := passes_of rfl
  exact (qb_one (qs_if (qt_not (qt_lelt qe_int (qv 0) (qv 1))) (qb_one (qs_raise rfl tk Ee.c_NoBin (by rfl))) qb_nil))
noncomputable abbrev sFrame___init__ : Stmt := inClass (topS 12) 0
theorem cFrame___init__ : FnScope ["self", "one", "table", "room"] ["self", "one", "table", "room"] (defScope sFrame___init__) := ⟨rfl, rfl, rfl, by decide +kernel, rfl, by decide +kernel, by decide +kernel⟩
noncomputable def bFrame___init__ : Stm := (sSeq (sFl "Frame" "bins" (eFn Fbins_by [(eVar 1), (eVar 2)]) (eVar 0))
    (sSeq (sFl "Frame" "many" (e2 ixD (eVar 2) (eC (.int 0))) (eVar 0))
    (sSeq (sFl "Frame" "room" (eVar 3) (eVar 0))
    (sSeq (sFl "Frame" "left" (eVar 1) (eVar 0))
    (sSeq (sFl "Frame" "lying" (eNew nDct0) (eVar 0))
    (sFl "Frame" "out" (eNew nDct0) (eVar 0)))))))
noncomputable def FFrame___init__ : List D → Sto → Res D := runD .keep 4 bFrame___init__
theorem kFrame___init__ (T : Bt K mg) (Ee : Er K mg cl) (Kk : Kl K mg cl) (I : MethIn K cl "Frame" "__init__" "Frame.__init__" sFrame___init__ ["self", "one", "table", "room"]) (Gbins_by : DefOk P w K mg base cl "bins_by" 2 ["one", "table"] Fbins_by) : MethOk P w K mg base cl "Frame" "__init__" 3 ["self", "one", "table", "room"] FFrame___init__ := by
  refine meth_ok (k := 2) I cFrame___init__ fun f cdv A outer s H E hr => ?_
  have nd := cFrame___init__.nd
  have tk : L2N.Takes (cxOf (L2N.CX P w) P w K mg base ["self", "one", "table", "room"] "Frame.__init__" (defScope sFrame___init__) f cdv A outer s H E) (fun c d _ H => E c d H)   := L2N.takes_of rfl rfl rfl rfl
  have hp : PassesOwn (model P w) (cxOf (L2N.CX P w) P w K mg base ["self", "one", "table", "room"] "Frame.__init__" (defScope sFrame___init__) f cdv A outer s H E).A (cxOf (L2N.CX P w) P w K mg base ["self", "one", "table", "room"] "Frame.__init__" (defScope sFrame___init__) f cdv A outer s H E).env (cxOf (L2N.CX P w) P w K mg base ["self", "one", "table", "room"] "Frame.__init__" (defScope sFrame___init__) f cdv A outer s H E).xe := passes_of rfl
  exact (qb_cons (qs_fld Kk.c_Frame Kk.n_Frame_bins (qv 0) (qe_fn (Gbins_by.mono (by decide)) hr (by rfl) tk (qa_cons (qv 1) (qa_cons (qv 2) qa_nil))))
    (qb_cons (qs_fld Kk.c_Frame Kk.n_Frame_many (qv 0) (qe_ix hr (qv 2) qe_int))
    (qb_cons (qs_fld Kk.c_Frame Kk.n_Frame_room (qv 0) (qv 3))
    (qb_cons (qs_fld Kk.c_Frame Kk.n_Frame_left (qv 0) (qv 1))
    (qb_cons (qs_fld Kk.c_Frame Kk.n_Frame_lying (qv 0) (qe_new qn_dct0))
    (qb_one (qs_fld Kk.c_Frame Kk.n_Frame_out (qv 0) (qe_new qn_dct0))))))))
noncomputable abbrev sFrame_free : Stmt := inClass (topS 12) 1
theorem cFrame_free : FnScope ["self", "number"] ["self", "number"] (defScope sFrame_free) := ⟨rfl, rfl, rfl, by decide +kernel, rfl, by decide +kernel, by decide +kernel⟩
noncomputable def bFrame_free : Stm := (sRet (e2 subD (e1 (fldD "Frame" "room") (eVar 0)) (eFn Fletters_in [(eGet (e1 (fldD "Frame" "lying") (eVar 0)) (eVar 1) (eTup []))])))
noncomputable def FFrame_free : List D → Sto → Res D := runD .frz 2 bFrame_free
theorem kFrame_free (T : Bt K mg) (Ee : Er K mg cl) (Kk : Kl K mg cl) (I : MethIn K cl "Frame" "free" "Frame.free" sFrame_free ["self", "number"]) (Gletters_in : DefOk P w K mg base cl "letters_in" 1 ["one"] Fletters_in) : MethOk P w K mg base cl "Frame" "free" 2 ["self", "number"] FFrame_free := by
  refine meth_ok (k := 1) I cFrame_free fun f cdv A outer s H E hr => ?_
  have nd := cFrame_free.nd
  have tk : L2N.Takes (cxOf (L2N.CX P w) P w K mg base ["self", "number"] "Frame.free" (defScope sFrame_free) f cdv A outer s H E) (fun c d _ H => E c d H)   := L2N.takes_of rfl rfl rfl rfl
  have hp : PassesOwn (model P w) (cxOf (L2N.CX P w) P w K mg base ["self", "number"] "Frame.free" (defScope sFrame_free) f cdv A outer s H E).A (cxOf (L2N.CX P w) P w K mg base ["self", "number"] "Frame.free" (defScope sFrame_free) f cdv A outer s H E).env (cxOf (L2N.CX P w) P w K mg base ["self", "number"] "Frame.free" (defScope sFrame_free) f cdv A outer s H E).xe := passes_of rfl
  exact (qb_one (qs_ret (qe_sub (qe_fld Kk.c_Frame Kk.n_Frame_room (qv 0)) (qe_fn (Gletters_in.mono (by decide)) hr (by rfl) tk (qa_cons (qe_get hr (qe_fld Kk.c_Frame Kk.n_Frame_lying (qv 0)) (qv 1) (qe_tup qa_nil)) qa_nil)))))
noncomputable abbrev sFrame_feed : Stmt := inClass (topS 12) 2
theorem cFrame_feed : FnScope ["self", "letters", "came", "key", "many", "number", "more"] ["self", "letters"] (defScope sFrame_feed) := ⟨rfl, rfl, rfl, by decide +kernel, rfl, by decide +kernel, by decide +kernel⟩
noncomputable def bFrame_feed_1 : Stm := (sSeq (sAsg (.tp [(.nm 3), (.nm 4)]) (e2 ixD (e1 (fldD "Frame" "left") (eVar 0)) (eC (.int 0))))
    (sSeq (sSet 5 (e2 ixD (e1 (fldD "Frame" "bins") (eVar 0)) (eVar 3)))
    (sSeq (sSet 6 (eCall ii3D [(eVar 4), (eMeth "Frame" "free" FFrame_free (eVar 0) [(eVar 5)]), (e2 subD (eVar 1) (eVar 2))]))
    (sSeq (sIf (eTB (e2 (eqD false) (eVar 6) (eC (.int 0)))) (sRet (eVar 2)) sNext)
    (sSeq (sSt (eFn Fjoined [(eGet (e1 (fldD "Frame" "lying") (eVar 0)) (eVar 5) (eTup [])), (eTup [(eTup [(eVar 3), (eVar 6)])])]) (e1 (fldD "Frame" "lying") (eVar 0)) (eVar 5))
    (sSeq (sFl "Frame" "left" (eFn Fheap [(e2 addD (eTup [(eTup [(eVar 3), (e2 subD (eVar 4) (eVar 6))])]) (eSl (e1 (fldD "Frame" "left") (eVar 0)) (pE (eC (.int 1))) pN))]) (eVar 0))
    (sAug (intD (fun _ _ => True) fun i j => .int (i + j)) 2 (eVar 6))))))))
noncomputable def bFrame_feed : Stm := (sSeq (sSet 2 (eC (.int 0)))
    (sSeq (sFgt [3, 4, 5, 6] (whileD [3, 4, 5, 6] (tAndD (eTB (e2 (eqD true) (e1 (fldD "Frame" "left") (eVar 0)) (eTup []))) (eTB (e2 ltD (eVar 2) (eVar 1)))) bFrame_feed_1))
    (sRet (eVar 2))))
noncomputable def FFrame_feed : List D → Sto → Res D := runD .frz 7 bFrame_feed
theorem kFrame_feed (T : Bt K mg) (Ee : Er K mg cl) (Kk : Kl K mg cl) (I : MethIn K cl "Frame" "feed" "Frame.feed" sFrame_feed ["self", "letters"]) (Gjoined : DefOk P w K mg base cl "joined" 2 ["one", "other"] Fjoined) (Gheap : DefOk P w K mg base cl "heap" 1 ["rows"] Fheap) (GFrame_free : MethOk P w K mg base cl "Frame" "free" 2 ["self", "number"] FFrame_free) : MethOk P w K mg base cl "Frame" "feed" 3 ["self", "letters"] FFrame_feed := by
  refine meth_ok (k := 2) I cFrame_feed fun f cdv A outer s H E hr => ?_
  have nd := cFrame_feed.nd
  have tk : L2N.Takes (cxOf (L2N.CX P w) P w K mg base ["self", "letters", "came", "key", "many", "number", "more"] "Frame.feed" (defScope sFrame_feed) f cdv A outer s H E) (fun c d _ H => E c d H)   := L2N.takes_of rfl rfl rfl rfl
  have hp : PassesOwn (model P w) (cxOf (L2N.CX P w) P w K mg base ["self", "letters", "came", "key", "many", "number", "more"] "Frame.feed" (defScope sFrame_feed) f cdv A outer s H E).A (cxOf (L2N.CX P w) P w K mg base ["self", "letters", "came", "key", "many", "number", "more"] "Frame.feed" (defScope sFrame_feed) f cdv A outer s H E).env (cxOf (L2N.CX P w) P w K mg base ["self", "letters", "came", "key", "many", "number", "more"] "Frame.feed" (defScope sFrame_feed) f cdv A outer s H E).xe := passes_of rfl
  exact (qb_cons (qs_set nd rfl (by first | exact Or.inl rfl | exact Or.inr rfl) qe_int)
    (qb_cons (qs_fgt [3, 4, 5, 6] (qs_while [3, 4, 5, 6] hp (PW.pt (qw_and (qt_ne hr (qe_fld Kk.c_Frame Kk.n_Frame_left (qv 0)) (qe_tup qa_nil)) (qw_and1 (qt_lt (qv 2) (qv 1)))))
    (qb_cons (qs_asg (qe_ix hr (qe_fld Kk.c_Frame Kk.n_Frame_left (qv 0)) qe_int) (qg_tp rfl (qgs_cons (qg_nm nd rfl (by first | exact Or.inl rfl | exact Or.inr rfl)) (qgs_cons (qg_nm nd rfl (by first | exact Or.inl rfl | exact Or.inr rfl)) qgs_nil)) rfl))
    (qb_cons (qs_set nd rfl (by first | exact Or.inl rfl | exact Or.inr rfl) (qe_ix hr (qe_fld Kk.c_Frame Kk.n_Frame_bins (qv 0)) (qv 3)))
    (qb_cons (qs_set nd rfl (by first | exact Or.inl rfl | exact Or.inr rfl) (qe_min3 rfl (by rfl) T.min (qa_cons (qv 4) (qa_cons (qe_meth Kk.c_Frame (GFrame_free.mono (by decide)) hr tk (qv 0) (qa_cons (qv 5) qa_nil)) (qa_cons (qe_sub (qv 1) (qv 2)) qa_nil)))))
    (qb_cons (qs_if (qt_eq hr (qv 6) qe_int) (qb_one (qs_ret (qv 2))) qb_nil)
    (qb_cons (qs_st hr (qe_fn (Gjoined.mono (by decide)) hr (by rfl) tk (qa_cons (qe_get hr (qe_fld Kk.c_Frame Kk.n_Frame_lying (qv 0)) (qv 5) (qe_tup qa_nil)) (qa_cons (qe_tup (qa_cons (qe_tup (qa_cons (qv 3) (qa_cons (qv 6) qa_nil))) qa_nil)) qa_nil))) (qe_fld Kk.c_Frame Kk.n_Frame_lying (qv 0)) (qv 5))
    (qb_cons (qs_fld Kk.c_Frame Kk.n_Frame_left (qv 0) (qe_fn (Gheap.mono (by decide)) hr (by rfl) tk (qa_cons (qe_add (qe_tup (qa_cons (qe_tup (qa_cons (qv 3) (qa_cons (qe_sub (qv 4) (qv 6)) qa_nil))) qa_nil)) (qe_sl (qe_fld Kk.c_Frame Kk.n_Frame_left (qv 0)) (qp_e qe_int) qp_n)) qa_nil)))
    (qb_one (qs_augAdd nd rfl (by first | exact Or.inl rfl | exact Or.inr rfl) (qv 6)))))))))))
    (qb_one (qs_ret (qv 2)))))
noncomputable abbrev sFrame_waits : Stmt := inClass (topS 12) 3
theorem cFrame_waits : FnScope ["self", "number"] ["self"] (defScope sFrame_waits) := ⟨rfl, rfl, rfl, by decide +kernel, rfl, by decide +kernel, by decide +kernel⟩
noncomputable def bFrame_waits : Stm := (sSeq (sIf (eTB (e2 (eqD false) (e1 (fldD "Frame" "left") (eVar 0)) (eTup []))) (sRet (eC .non)) sNext)
    (sSeq (sSet 1 (e2 ixD (e1 (fldD "Frame" "bins") (eVar 0)) (e2 ixD (e2 ixD (e1 (fldD "Frame" "left") (eVar 0)) (eC (.int 0))) (eC (.int 0)))))
    (sRet (eIf (eTB (e2 (eqD false) (eMeth "Frame" "free" FFrame_free (eVar 0) [(eVar 1)]) (eC (.int 0)))) (eVar 1) (eC .non)))))
noncomputable def FFrame_waits : List D → Sto → Res D := runD .frz 2 bFrame_waits
theorem kFrame_waits (T : Bt K mg) (Ee : Er K mg cl) (Kk : Kl K mg cl) (I : MethIn K cl "Frame" "waits" "Frame.waits" sFrame_waits ["self"]) (GFrame_free : MethOk P w K mg base cl "Frame" "free" 2 ["self", "number"] FFrame_free) : MethOk P w K mg base cl "Frame" "waits" 3 ["self"] FFrame_waits := by
  refine meth_ok (k := 2) I cFrame_waits fun f cdv A outer s H E hr => ?_
  have nd := cFrame_waits.nd
  have tk : L2N.Takes (cxOf (L2N.CX P w) P w K mg base ["self", "number"] "Frame.waits" (defScope sFrame_waits) f cdv A outer s H E) (fun c d _ H => E c d H)   := L2N.takes_of rfl rfl rfl rfl
  have hp : PassesOwn (model P w) (cxOf (L2N.CX P w) P w K mg base ["self", "number"] "Frame.waits" (defScope sFrame_waits) f cdv A outer s H E).A (cxOf (L2N.CX P w) P w K mg base ["self", "number"] "Frame.waits" (defScope sFrame_waits) f cdv A outer s H E).env (cxOf (L2N.CX P w) P w K mg base ["self", "number"] "Frame.waits" (defScope sFrame_waits) f cdv A outer s H E).xe := passes_of rfl
  exact (qb_cons (qs_if (qt_eq hr (qe_fld Kk.c_Frame Kk.n_Frame_left (qv 0)) (qe_tup qa_nil)) (qb_one (qs_ret qe_non)) qb_nil)
    (qb_cons (qs_set nd rfl (by first | exact Or.inl rfl | exact Or.inr rfl) (qe_ix hr (qe_fld Kk.c_Frame Kk.n_Frame_bins (qv 0)) (qe_ix hr (qe_ix hr (qe_fld Kk.c_Frame Kk.n_Frame_left (qv 0)) qe_int) qe_int)))
    (qb_one (qs_ret (qe_if (qt_eq hr (qe_meth Kk.c_Frame (GFrame_free.mono (by decide)) hr tk (qv 0) (qa_cons (qv 1) qa_nil)) qe_int) (qv 1) qe_non)))))
noncomputable abbrev sFrame_take : Stmt := inClass (topS 12) 4
theorem cFrame_take : FnScope ["self", "number", "found"] ["self", "number"] (defScope sFrame_take) := ⟨rfl, rfl, rfl, by decide +kernel, rfl, by decide +kernel, by decide +kernel⟩
noncomputable def bFrame_take : Stm := (sSeq (sExpr (eFn Fneed_bin [(eVar 1), (e1 (fldD "Frame" "many") (eVar 0))]))
    (sSeq (sSet 2 (ePopK (e1 (fldD "Frame" "lying") (eVar 0)) (eVar 1) (eTup [])))
    (sSeq (sSt (eFn Fjoined [(eGet (e1 (fldD "Frame" "out") (eVar 0)) (eVar 1) (eTup [])), (eVar 2)]) (e1 (fldD "Frame" "out") (eVar 0)) (eVar 1))
    (sRet (eVar 2)))))
noncomputable def FFrame_take : List D → Sto → Res D := runD .frz 3 bFrame_take
theorem kFrame_take (T : Bt K mg) (Ee : Er K mg cl) (Kk : Kl K mg cl) (I : MethIn K cl "Frame" "take" "Frame.take" sFrame_take ["self", "number"]) (Gneed_bin : DefOk P w K mg base cl "need_bin" 1 ["number", "many"] Fneed_bin) (Gjoined : DefOk P w K mg base cl "joined" 2 ["one", "other"] Fjoined) : MethOk P w K mg base cl "Frame" "take" 3 ["self", "number"] FFrame_take := by
  refine meth_ok (k := 2) I cFrame_take fun f cdv A outer s H E hr => ?_
  have nd := cFrame_take.nd
  have tk : L2N.Takes (cxOf (L2N.CX P w) P w K mg base ["self", "number", "found"] "Frame.take" (defScope sFrame_take) f cdv A outer s H E) (fun c d _ H => E c d H)   := L2N.takes_of rfl rfl rfl rfl
  have hp : PassesOwn (model P w) (cxOf (L2N.CX P w) P w K mg base ["self", "number", "found"] "Frame.take" (defScope sFrame_take) f cdv A outer s H E).A (cxOf (L2N.CX P w) P w K mg base ["self", "number", "found"] "Frame.take" (defScope sFrame_take) f cdv A outer s H E).env (cxOf (L2N.CX P w) P w K mg base ["self", "number", "found"] "Frame.take" (defScope sFrame_take) f cdv A outer s H E).xe := passes_of rfl
  exact (qb_cons (qs_expr (qe_fn (Gneed_bin.mono (by decide)) hr (by rfl) tk (qa_cons (qv 1) (qa_cons (qe_fld Kk.c_Frame Kk.n_Frame_many (qv 0)) qa_nil))))
    (qb_cons (qs_set nd rfl (by first | exact Or.inl rfl | exact Or.inr rfl) (qe_popK (qe_fld Kk.c_Frame Kk.n_Frame_lying (qv 0)) (qv 1) (qe_tup qa_nil)))
    (qb_cons (qs_st hr (qe_fn (Gjoined.mono (by decide)) hr (by rfl) tk (qa_cons (qe_get hr (qe_fld Kk.c_Frame Kk.n_Frame_out (qv 0)) (qv 1) (qe_tup qa_nil)) (qa_cons (qv 2) qa_nil))) (qe_fld Kk.c_Frame Kk.n_Frame_out (qv 0)) (qv 1))
    (qb_one (qs_ret (qv 2))))))
noncomputable abbrev sFrame_rest : Stmt := inClass (topS 12) 5
theorem cFrame_rest : FnScope ["self"] ["self"] (defScope sFrame_rest) := ⟨rfl, rfl, rfl, by decide +kernel, rfl, by decide +kernel, by decide +kernel⟩
noncomputable def bFrame_rest : Stm := (sRet (e1 (fldD "Frame" "left") (eVar 0)))
noncomputable def FFrame_rest : List D → Sto → Res D := runD .frz 1 bFrame_rest
theorem kFrame_rest (T : Bt K mg) (Ee : Er K mg cl) (Kk : Kl K mg cl) (I : MethIn K cl "Frame" "rest" "Frame.rest" sFrame_rest ["self"])  : MethOk P w K mg base cl "Frame" "rest" 1 ["self"] FFrame_rest := by
  refine meth_ok (k := 0) I cFrame_rest fun f cdv A outer s H E hr => ?_
  have nd := cFrame_rest.nd
  have tk : L2N.Takes (cxOf (L2N.CX P w) P w K mg base ["self"] "Frame.rest" (defScope sFrame_rest) f cdv A outer s H E) (fun c d _ H => E c d H)   := L2N.takes_of rfl rfl rfl rfl
  have hp : PassesOwn (model P w) (cxOf (L2N.CX P w) P w K mg base ["self"] "Frame.rest" (defScope sFrame_rest) f cdv A outer s H E).A (cxOf (L2N.CX P w) P w K mg base ["self"] "Frame.rest" (defScope sFrame_rest) f cdv A outer s H E).env (cxOf (L2N.CX P w) P w K mg base ["self"] "Frame.rest" (defScope sFrame_rest) f cdv A outer s H E).xe := passes_of rfl
  exact (qb_one (qs_ret (qe_fld Kk.c_Frame Kk.n_Frame_left (qv 0))))
noncomputable abbrev sFrame_lies : Stmt := inClass (topS 12) 6
theorem cFrame_lies : FnScope ["self", "number"] ["self", "number"] (defScope sFrame_lies) := ⟨rfl, rfl, rfl, by decide +kernel, rfl, by decide +kernel, by decide +kernel⟩
noncomputable def bFrame_lies : Stm := (sSeq (sExpr (eFn Fneed_bin [(eVar 1), (e1 (fldD "Frame" "many") (eVar 0))]))
    (sRet (eGet (e1 (fldD "Frame" "lying") (eVar 0)) (eVar 1) (eTup []))))
noncomputable def FFrame_lies : List D → Sto → Res D := runD .frz 2 bFrame_lies
theorem kFrame_lies (T : Bt K mg) (Ee : Er K mg cl) (Kk : Kl K mg cl) (I : MethIn K cl "Frame" "lies" "Frame.lies" sFrame_lies ["self", "number"]) (Gneed_bin : DefOk P w K mg base cl "need_bin" 1 ["number", "many"] Fneed_bin) : MethOk P w K mg base cl "Frame" "lies" 2 ["self", "number"] FFrame_lies := by
  refine meth_ok (k := 1) I cFrame_lies fun f cdv A outer s H E hr => ?_
  have nd := cFrame_lies.nd
  have tk : L2N.Takes (cxOf (L2N.CX P w) P w K mg base ["self", "number"] "Frame.lies" (defScope sFrame_lies) f cdv A outer s H E) (fun c d _ H => E c d H)   := L2N.takes_of rfl rfl rfl rfl
  have hp : PassesOwn (model P w) (cxOf (L2N.CX P w) P w K mg base ["self", "number"] "Frame.lies" (defScope sFrame_lies) f cdv A outer s H E).A (cxOf (L2N.CX P w) P w K mg base ["self", "number"] "Frame.lies" (defScope sFrame_lies) f cdv A outer s H E).env (cxOf (L2N.CX P w) P w K mg base ["self", "number"] "Frame.lies" (defScope sFrame_lies) f cdv A outer s H E).xe := passes_of rfl
  exact (qb_cons (qs_expr (qe_fn (Gneed_bin.mono (by decide)) hr (by rfl) tk (qa_cons (qv 1) (qa_cons (qe_fld Kk.c_Frame Kk.n_Frame_many (qv 0)) qa_nil))))
    (qb_one (qs_ret (qe_get hr (qe_fld Kk.c_Frame Kk.n_Frame_lying (qv 0)) (qv 1) (qe_tup qa_nil)))))
noncomputable abbrev sFrame_taken : Stmt := inClass (topS 12) 7
theorem cFrame_taken : FnScope ["self", "number"] ["self", "number"] (defScope sFrame_taken) := ⟨rfl, rfl, rfl, by decide +kernel, rfl, by decide +kernel, by decide +kernel⟩
noncomputable def bFrame_taken : Stm := (sSeq (sExpr (eFn Fneed_bin [(eVar 1), (e1 (fldD "Frame" "many") (eVar 0))]))
    (sRet (eGet (e1 (fldD "Frame" "out") (eVar 0)) (eVar 1) (eTup []))))
noncomputable def FFrame_taken : List D → Sto → Res D := runD .frz 2 bFrame_taken
theorem kFrame_taken (T : Bt K mg) (Ee : Er K mg cl) (Kk : Kl K mg cl) (I : MethIn K cl "Frame" "taken" "Frame.taken" sFrame_taken ["self", "number"]) (Gneed_bin : DefOk P w K mg base cl "need_bin" 1 ["number", "many"] Fneed_bin) : MethOk P w K mg base cl "Frame" "taken" 2 ["self", "number"] FFrame_taken := by
  refine meth_ok (k := 1) I cFrame_taken fun f cdv A outer s H E hr => ?_
  have nd := cFrame_taken.nd
  have tk : L2N.Takes (cxOf (L2N.CX P w) P w K mg base ["self", "number"] "Frame.taken" (defScope sFrame_taken) f cdv A outer s H E) (fun c d _ H => E c d H)   := L2N.takes_of rfl rfl rfl rfl
  have hp : PassesOwn (model P w) (cxOf (L2N.CX P w) P w K mg base ["self", "number"] "Frame.taken" (defScope sFrame_taken) f cdv A outer s H E).A (cxOf (L2N.CX P w) P w K mg base ["self", "number"] "Frame.taken" (defScope sFrame_taken) f cdv A outer s H E).env (cxOf (L2N.CX P w) P w K mg base ["self", "number"] "Frame.taken" (defScope sFrame_taken) f cdv A outer s H E).xe := passes_of rfl
  exact (qb_cons (qs_expr (qe_fn (Gneed_bin.mono (by decide)) hr (by rfl) tk (qa_cons (qv 1) (qa_cons (qe_fld Kk.c_Frame Kk.n_Frame_many (qv 0)) qa_nil))))
    (qb_one (qs_ret (qe_get hr (qe_fld Kk.c_Frame Kk.n_Frame_out (qv 0)) (qv 1) (qe_tup qa_nil)))))
noncomputable abbrev sFrame_comes : Stmt := inClass (topS 12) 8
theorem cFrame_comes : FnScope ["self", "found", "number"] ["self"] (defScope sFrame_comes) := ⟨rfl, rfl, rfl, by decide +kernel, rfl, by decide +kernel, by decide +kernel⟩
noncomputable def bFrame_comes_1 : Stm := (sSet 1 (eFn Fjoined [(eVar 1), (eFn Fjoined [(eGet (e1 (fldD "Frame" "out") (eVar 0)) (eVar 2) (eTup [])), (eGet (e1 (fldD "Frame" "lying") (eVar 0)) (eVar 2) (eTup []))])]))
noncomputable def bFrame_comes : Stm := (sSeq (sIf (eTB (e2 (eqD true) (e1 (fldD "Frame" "left") (eVar 0)) (eTup []))) (sRaise "NotDone") sNext)
    (sSeq (sSet 1 (eTup []))
    (sSeq (sFgt [2] (sFor [2] (.nm 2) (iS (eAno (nSSet (eAno (nVals (e1 (fldD "Frame" "bins") (eVar 0))))))) bFrame_comes_1))
    (sRet (eVar 1)))))
noncomputable def FFrame_comes : List D → Sto → Res D := runD .frz 3 bFrame_comes
theorem kFrame_comes (T : Bt K mg) (Ee : Er K mg cl) (Kk : Kl K mg cl) (I : MethIn K cl "Frame" "comes" "Frame.comes" sFrame_comes ["self"]) (Gjoined : DefOk P w K mg base cl "joined" 2 ["one", "other"] Fjoined) : MethOk P w K mg base cl "Frame" "comes" 3 ["self"] FFrame_comes := by
  refine meth_ok (k := 2) I cFrame_comes fun f cdv A outer s H E hr => ?_
  have nd := cFrame_comes.nd
  have tk : L2N.Takes (cxOf (L2N.CX P w) P w K mg base ["self", "found", "number"] "Frame.comes" (defScope sFrame_comes) f cdv A outer s H E) (fun c d _ H => E c d H)   := L2N.takes_of rfl rfl rfl rfl
  have hp : PassesOwn (model P w) (cxOf (L2N.CX P w) P w K mg base ["self", "found", "number"] "Frame.comes" (defScope sFrame_comes) f cdv A outer s H E).A (cxOf (L2N.CX P w) P w K mg base ["self", "found", "number"] "Frame.comes" (defScope sFrame_comes) f cdv A outer s H E).env (cxOf (L2N.CX P w) P w K mg base ["self", "found", "number"] "Frame.comes" (defScope sFrame_comes) f cdv A outer s H E).xe := passes_of rfl
  exact (qb_cons (qs_if (qt_ne hr (qe_fld Kk.c_Frame Kk.n_Frame_left (qv 0)) (qe_tup qa_nil)) (qb_one (qs_raise rfl tk Ee.c_NotDone (by rfl))) qb_nil)
    (qb_cons (qs_set nd rfl (by first | exact Or.inl rfl | exact Or.inr rfl) (qe_tup qa_nil))
    (qb_cons (qs_fgt [2] (qs_for [2] hp rfl (qi_s (qe_ano (qn_sset rfl (by rfl) T.sorted (by rfl) T.set (qe_ano (qn_vals rfl (by rfl) T.list (qe_fld Kk.c_Frame Kk.n_Frame_bins (qv 0))))))) (qg_nm nd rfl (by first | exact Or.inl rfl | exact Or.inr rfl))
    (qb_one (qs_set nd rfl (by first | exact Or.inl rfl | exact Or.inr rfl) (qe_fn (Gjoined.mono (by decide)) hr (by rfl) tk (qa_cons (qv 1) (qa_cons (qe_fn (Gjoined.mono (by decide)) hr (by rfl) tk (qa_cons (qe_get hr (qe_fld Kk.c_Frame Kk.n_Frame_out (qv 0)) (qv 2) (qe_tup qa_nil)) (qa_cons (qe_get hr (qe_fld Kk.c_Frame Kk.n_Frame_lying (qv 0)) (qv 2) (qe_tup qa_nil)) qa_nil))) qa_nil)))))))
    (qb_one (qs_ret (qv 1))))))
noncomputable abbrev s_law_cell_at : Stmt := topS 14
theorem c_law_cell_at : FnScope ["_law_script", "_law_k"] ["_law_script", "_law_k"] (defScope s_law_cell_at) := ⟨rfl, rfl, rfl, by decide +kernel, rfl, by decide +kernel, by decide +kernel⟩
noncomputable def b_law_cell_at : Stm := (sSeq (sIf (eTB (e2 ltD (eVar 1) (eCall lenD [(eVar 0)]))) (sRet (e2 ixD (eVar 0) (eVar 1))) sNext)
    (sRet (eC (.int 0))))
noncomputable def F_law_cell_at : List D → Sto → Res D := runD .frz 2 b_law_cell_at
theorem k_law_cell_at (T : Bt K mg) (Ee : Er K mg cl) (Kk : Kl K mg cl) (I : DefIn K mg "_law_cell_at" s_law_cell_at ["_law_script", "_law_k"])  : DefOk P w K mg base cl "_law_cell_at" 1 ["_law_script", "_law_k"] F_law_cell_at := by
  refine def_ok (k := 0) I c_law_cell_at fun f cdv A outer s H E hr => ?_
  have nd := c_law_cell_at.nd
  have tk : L2N.Takes (cxOf (L2N.CX P w) P w K mg base ["_law_script", "_law_k"] "_law_cell_at" (defScope s_law_cell_at) f cdv A outer s H E) (fun c d _ H => E c d H)   := L2N.takes_of rfl rfl rfl rfl
  have hp : PassesOwn (model P w) (cxOf (L2N.CX P w) P w K mg base ["_law_script", "_law_k"] "_law_cell_at" (defScope s_law_cell_at) f cdv A outer s H E).A (cxOf (L2N.CX P w) P w K mg base ["_law_script", "_law_k"] "_law_cell_at" (defScope s_law_cell_at) f cdv A outer s H E).env (cxOf (L2N.CX P w) P w K mg base ["_law_script", "_law_k"] "_law_cell_at" (defScope s_law_cell_at) f cdv A outer s H E).xe := passes_of rfl
  exact (qb_cons (qs_if (qt_lt (qv 1) (qe_len (by rfl) T.len (qa_cons (qv 0) qa_nil))) (qb_one (qs_ret (qe_ix hr (qv 0) (qv 1)))) qb_nil)
    (qb_one (qs_ret qe_int)))
noncomputable abbrev s_law_big : Stmt := topS 15
theorem c_law_big : FnScope ["_law_script", "_law_at", "_law_cell", "_law_primes", "_law_found", "_law_k", "_law_one"] ["_law_script", "_law_at"] (defScope s_law_big) := ⟨rfl, rfl, rfl, by decide +kernel, rfl, by decide +kernel, by decide +kernel⟩
noncomputable def b_law_big_1 : Stm := (sSeq (sSet 6 (e2 addD (e2 addD (e2 addD (e2 modD (eFn F_law_cell_at [(eVar 0), (e2 addD (eVar 1) (e2 modD (eVar 5) (eC (.int 7))))]) (e2 powD (eC (.int 10)) (eC (.int 18)))) (e2 mulD (eC (.int 11)) (eVar 5))) (e2 mulD (eC (.int 13)) (eVar 1))) (eC (.int 3))))
    (sSet 4 (e2 addD (e2 mulD (eVar 4) (eC (.int 8191))) (e2 modD (e2 mulD (e2 modD (e2 powD (e2 addD (e2 addD (e2 mulD (eVar 6) (eVar 6)) (e2 mulD (eC (.int 17)) (eVar 5))) (eC (.int 1))) (eC (.int 3))) (e2 ixD (eVar 3) (e2 modD (eVar 5) (eC (.int 7))))) (e2 addD (eVar 5) (eC (.int 5)))) (eC (.int 8191))))))
noncomputable def b_law_big : Stm := (sSeq (sSet 2 (eFn F_law_cell_at [(eVar 0), (eVar 1)]))
    (sSeq (sIf (eTB (e2 geD (eVar 2) (e2 powD (eC (.int 10)) (eC (.int 18))))) (sRet (eVar 2)) sNext)
    (sSeq (sSet 3 (eTup [(eC (.int 104729)), (eC (.int 104723)), (eC (.int 104717)), (eC (.int 104711)), (eC (.int 104707)), (eC (.int 104701)), (eC (.int 104693))]))
    (sSeq (sSet 4 (eC (.int 0)))
    (sSeq (sFgt [5, 6] (sFor [5, 6] (.nm 5) (iR1 (eC (.int 70))) b_law_big_1))
    (sRet (eVar 4)))))))
noncomputable def F_law_big : List D → Sto → Res D := runD .frz 7 b_law_big
theorem k_law_big (T : Bt K mg) (Ee : Er K mg cl) (Kk : Kl K mg cl) (I : DefIn K mg "_law_big" s_law_big ["_law_script", "_law_at"]) (G_law_cell_at : DefOk P w K mg base cl "_law_cell_at" 1 ["_law_script", "_law_k"] F_law_cell_at) : DefOk P w K mg base cl "_law_big" 2 ["_law_script", "_law_at"] F_law_big := by
  refine def_ok (k := 1) I c_law_big fun f cdv A outer s H E hr => ?_
  have nd := c_law_big.nd
  have tk : L2N.Takes (cxOf (L2N.CX P w) P w K mg base ["_law_script", "_law_at", "_law_cell", "_law_primes", "_law_found", "_law_k", "_law_one"] "_law_big" (defScope s_law_big) f cdv A outer s H E) (fun c d _ H => E c d H)   := L2N.takes_of rfl rfl rfl rfl
  have hp : PassesOwn (model P w) (cxOf (L2N.CX P w) P w K mg base ["_law_script", "_law_at", "_law_cell", "_law_primes", "_law_found", "_law_k", "_law_one"] "_law_big" (defScope s_law_big) f cdv A outer s H E).A (cxOf (L2N.CX P w) P w K mg base ["_law_script", "_law_at", "_law_cell", "_law_primes", "_law_found", "_law_k", "_law_one"] "_law_big" (defScope s_law_big) f cdv A outer s H E).env (cxOf (L2N.CX P w) P w K mg base ["_law_script", "_law_at", "_law_cell", "_law_primes", "_law_found", "_law_k", "_law_one"] "_law_big" (defScope s_law_big) f cdv A outer s H E).xe := passes_of rfl
  exact (qb_cons (qs_set nd rfl (by first | exact Or.inl rfl | exact Or.inr rfl) (qe_fn (G_law_cell_at.mono (by decide)) hr (by rfl) tk (qa_cons (qv 0) (qa_cons (qv 1) qa_nil))))
    (qb_cons (qs_if (qt_ge (qv 2) (qe_pow qe_int qe_int)) (qb_one (qs_ret (qv 2))) qb_nil)
    (qb_cons (qs_set nd rfl (by first | exact Or.inl rfl | exact Or.inr rfl) (qe_tup (qa_cons qe_int (qa_cons qe_int (qa_cons qe_int (qa_cons qe_int (qa_cons qe_int (qa_cons qe_int (qa_cons qe_int qa_nil)))))))))
    (qb_cons (qs_set nd rfl (by first | exact Or.inl rfl | exact Or.inr rfl) qe_int)
    (qb_cons (qs_fgt [5, 6] (qs_for [5, 6] hp rfl (qi_r1 (by rfl) T.range qe_int) (qg_nm nd rfl (by first | exact Or.inl rfl | exact Or.inr rfl))
    (qb_cons (qs_set nd rfl (by first | exact Or.inl rfl | exact Or.inr rfl) (qe_add (qe_add (qe_add (qe_mod (qe_fn (G_law_cell_at.mono (by decide)) hr (by rfl) tk (qa_cons (qv 0) (qa_cons (qe_add (qv 1) (qe_mod (qv 5) qe_int)) qa_nil))) (qe_pow qe_int qe_int)) (qe_mul qe_int (qv 5))) (qe_mul qe_int (qv 1))) qe_int))
    (qb_one (qs_set nd rfl (by first | exact Or.inl rfl | exact Or.inr rfl) (qe_add (qe_mul (qv 4) qe_int) (qe_mod (qe_mul (qe_mod (qe_pow (qe_add (qe_add (qe_mul (qv 6) (qv 6)) (qe_mul qe_int (qv 5))) qe_int) qe_int) (qe_ix hr (qv 3) (qe_mod (qv 5) qe_int))) (qe_add (qv 5) qe_int)) qe_int)))))))
    (qb_one (qs_ret (qv 4))))))))
noncomputable abbrev s_law_digit : Stmt := topS 16
theorem c_law_digit : FnScope ["_law_rest", "_law_many", "_law_found"] ["_law_rest", "_law_many"] (defScope s_law_digit) := ⟨rfl, rfl, rfl, by decide +kernel, rfl, by decide +kernel, by decide +kernel⟩
noncomputable def b_law_digit : Stm := (sSeq (sSet 2 (e2 modD (e2 ixD (eVar 0) (eC (.int 0))) (eVar 1)))
    (sSeq (sSt (e2 fdivD (e2 ixD (eVar 0) (eC (.int 0))) (eVar 1)) (eVar 0) (eC (.int 0)))
    (sRet (eVar 2))))
noncomputable def F_law_digit : List D → Sto → Res D := runD .frz 3 b_law_digit
theorem k_law_digit (T : Bt K mg) (Ee : Er K mg cl) (Kk : Kl K mg cl) (I : DefIn K mg "_law_digit" s_law_digit ["_law_rest", "_law_many"])  : DefOk P w K mg base cl "_law_digit" 1 ["_law_rest", "_law_many"] F_law_digit := by
  refine def_ok (k := 0) I c_law_digit fun f cdv A outer s H E hr => ?_
  have nd := c_law_digit.nd
  have tk : L2N.Takes (cxOf (L2N.CX P w) P w K mg base ["_law_rest", "_law_many", "_law_found"] "_law_digit" (defScope s_law_digit) f cdv A outer s H E) (fun c d _ H => E c d H)   := L2N.takes_of rfl rfl rfl rfl
  have hp : PassesOwn (model P w) (cxOf (L2N.CX P w) P w K mg base ["_law_rest", "_law_many", "_law_found"] "_law_digit" (defScope s_law_digit) f cdv A outer s H E).A (cxOf (L2N.CX P w) P w K mg base ["_law_rest", "_law_many", "_law_found"] "_law_digit" (defScope s_law_digit) f cdv A outer s H E).env (cxOf (L2N.CX P w) P w K mg base ["_law_rest", "_law_many", "_law_found"] "_law_digit" (defScope s_law_digit) f cdv A outer s H E).xe := passes_of rfl
  exact (qb_cons (qs_set nd rfl (by first | exact Or.inl rfl | exact Or.inr rfl) (qe_mod (qe_ix hr (qv 0) qe_int) (qv 1)))
    (qb_cons (qs_st hr (qe_fdiv (qe_ix hr (qv 0) qe_int) (qv 1)) (qv 0) qe_int)
    (qb_one (qs_ret (qv 2)))))
noncomputable abbrev s_law_whole : Stmt := topS 17
theorem c_law_whole : FnScope ["_law_rest"] ["_law_rest"] (defScope s_law_whole) := ⟨rfl, rfl, rfl, by decide +kernel, rfl, by decide +kernel, by decide +kernel⟩
noncomputable def b_law_whole : Stm := (sRet (eFn F_law_digit [(eVar 0), (e2 ixD (eTup [(eC (.int 2)), (eC (.int 5)), (eC (.int 12)), (e2 powD (eC (.int 10)) (eC (.int 57)))]) (eFn F_law_digit [(eVar 0), (eC (.int 4))]))]))
noncomputable def F_law_whole : List D → Sto → Res D := runD .frz 1 b_law_whole
theorem k_law_whole (T : Bt K mg) (Ee : Er K mg cl) (Kk : Kl K mg cl) (I : DefIn K mg "_law_whole" s_law_whole ["_law_rest"]) (G_law_digit : DefOk P w K mg base cl "_law_digit" 1 ["_law_rest", "_law_many"] F_law_digit) : DefOk P w K mg base cl "_law_whole" 2 ["_law_rest"] F_law_whole := by
  refine def_ok (k := 1) I c_law_whole fun f cdv A outer s H E hr => ?_
  have nd := c_law_whole.nd
  have tk : L2N.Takes (cxOf (L2N.CX P w) P w K mg base ["_law_rest"] "_law_whole" (defScope s_law_whole) f cdv A outer s H E) (fun c d _ H => E c d H)   := L2N.takes_of rfl rfl rfl rfl
  have hp : PassesOwn (model P w) (cxOf (L2N.CX P w) P w K mg base ["_law_rest"] "_law_whole" (defScope s_law_whole) f cdv A outer s H E).A (cxOf (L2N.CX P w) P w K mg base ["_law_rest"] "_law_whole" (defScope s_law_whole) f cdv A outer s H E).env (cxOf (L2N.CX P w) P w K mg base ["_law_rest"] "_law_whole" (defScope s_law_whole) f cdv A outer s H E).xe := passes_of rfl
  exact (qb_one (qs_ret (qe_fn (G_law_digit.mono (by decide)) hr (by rfl) tk (qa_cons (qv 0) (qa_cons (qe_ix hr (qe_tup (qa_cons qe_int (qa_cons qe_int (qa_cons qe_int (qa_cons (qe_pow qe_int qe_int) qa_nil))))) (qe_fn (G_law_digit.mono (by decide)) hr (by rfl) tk (qa_cons (qv 0) (qa_cons qe_int qa_nil)))) qa_nil)))))
noncomputable abbrev s_law_keys : Stmt := topS 18
theorem c_law_keys : FnScope ["_law_rest", "_law_many", "_law_found", "_law_key", "_law_k"] ["_law_rest", "_law_many"] (defScope s_law_keys) := ⟨rfl, rfl, rfl, by decide +kernel, rfl, by decide +kernel, by decide +kernel⟩
noncomputable def b_law_keys_1 : Stm := (sSeq (sSet 3 (e2 addD (e2 addD (eVar 3) (eCall int1D [(e2 gtD (eVar 4) (eC (.int 0)))])) (eFn F_law_digit [(eVar 0), (e2 ixD (eTup [(eC (.int 1)), (eC (.int 2)), (eC (.int 9))]) (eFn F_law_digit [(eVar 0), (eC (.int 3))]))])))
    (sExpr (eM "list" appD (eVar 2) [(eVar 3)])))
noncomputable def b_law_keys : Stm := (sSeq (sSet 2 (eNew (nLst [])))
    (sSeq (sSet 3 (eC (.int 0)))
    (sSeq (sIf (eTB (e2 (eqD false) (eFn F_law_digit [(eVar 0), (eC (.int 4))]) (eC (.int 1)))) (sSet 3 (eFn F_law_digit [(eVar 0), (e2 powD (eC (.int 10)) (eC (.int 59)))])) sNext)
    (sSeq (sFgt [3, 4] (sFor [4] (.nm 4) (iR1 (eVar 1)) b_law_keys_1))
    (sRet (eVar 2))))))
noncomputable def F_law_keys : List D → Sto → Res D := runD .frz 5 b_law_keys
theorem k_law_keys (T : Bt K mg) (Ee : Er K mg cl) (Kk : Kl K mg cl) (I : DefIn K mg "_law_keys" s_law_keys ["_law_rest", "_law_many"]) (G_law_digit : DefOk P w K mg base cl "_law_digit" 1 ["_law_rest", "_law_many"] F_law_digit) : DefOk P w K mg base cl "_law_keys" 2 ["_law_rest", "_law_many"] F_law_keys := by
  refine def_ok (k := 1) I c_law_keys fun f cdv A outer s H E hr => ?_
  have nd := c_law_keys.nd
  have tk : L2N.Takes (cxOf (L2N.CX P w) P w K mg base ["_law_rest", "_law_many", "_law_found", "_law_key", "_law_k"] "_law_keys" (defScope s_law_keys) f cdv A outer s H E) (fun c d _ H => E c d H)   := L2N.takes_of rfl rfl rfl rfl
  have hp : PassesOwn (model P w) (cxOf (L2N.CX P w) P w K mg base ["_law_rest", "_law_many", "_law_found", "_law_key", "_law_k"] "_law_keys" (defScope s_law_keys) f cdv A outer s H E).A (cxOf (L2N.CX P w) P w K mg base ["_law_rest", "_law_many", "_law_found", "_law_key", "_law_k"] "_law_keys" (defScope s_law_keys) f cdv A outer s H E).env (cxOf (L2N.CX P w) P w K mg base ["_law_rest", "_law_many", "_law_found", "_law_key", "_law_k"] "_law_keys" (defScope s_law_keys) f cdv A outer s H E).xe := passes_of rfl
  exact (qb_cons (qs_set nd rfl (by first | exact Or.inl rfl | exact Or.inr rfl) (qe_new (qn_lst qa_nil)))
    (qb_cons (qs_set nd rfl (by first | exact Or.inl rfl | exact Or.inr rfl) qe_int)
    (qb_cons (qs_if (qt_eq hr (qe_fn (G_law_digit.mono (by decide)) hr (by rfl) tk (qa_cons (qv 0) (qa_cons qe_int qa_nil))) qe_int) (qb_one (qs_set nd rfl (by first | exact Or.inl rfl | exact Or.inr rfl) (qe_fn (G_law_digit.mono (by decide)) hr (by rfl) tk (qa_cons (qv 0) (qa_cons (qe_pow qe_int qe_int) qa_nil))))) qb_nil)
    (qb_cons (qs_fgt [3, 4] (qs_for [4] hp rfl (qi_r1 (by rfl) T.range (qv 1)) (qg_nm nd rfl (by first | exact Or.inl rfl | exact Or.inr rfl))
    (qb_cons (qs_set nd rfl (by first | exact Or.inl rfl | exact Or.inr rfl) (qe_add (qe_add (qv 3) (qe_intOf (by rfl) T.int (qa_cons (qe_gt (qv 4) qe_int) qa_nil))) (qe_fn (G_law_digit.mono (by decide)) hr (by rfl) tk (qa_cons (qv 0) (qa_cons (qe_ix hr (qe_tup (qa_cons qe_int (qa_cons qe_int (qa_cons qe_int qa_nil)))) (qe_fn (G_law_digit.mono (by decide)) hr (by rfl) tk (qa_cons (qv 0) (qa_cons qe_int qa_nil)))) qa_nil)))))
    (qb_one (qs_expr (qe_append (qv 2) (qv 3)))))))
    (qb_one (qs_ret (qv 2)))))))
noncomputable abbrev s_law_rows : Stmt := topS 19
theorem c_law_rows : FnScope ["_law_rest", "_law_keys_here", "_law_many", "_law_far", "_law_found", "_law_k", "_law_often"] ["_law_rest", "_law_keys_here", "_law_many", "_law_far"] (defScope s_law_rows) := ⟨rfl, rfl, rfl, by decide +kernel, rfl, by decide +kernel, by decide +kernel⟩
noncomputable def b_law_rows_1 : Stm := (sSeq (sSet 6 (eFn F_law_digit [(eVar 0), (eC (.int 4))]))
    (sSeq (sIf (eTr (eVar 3)) (sSet 6 (eFn F_law_whole [(eVar 0)])) sNext)
    (sExpr (eM "list" appD (eVar 4) [(eTup [(e2 ixD (eVar 1) (eFn F_law_digit [(eVar 0), (eCall lenD [(eVar 1)])])), (eVar 6)])]))))
noncomputable def b_law_rows : Stm := (sSeq (sSet 4 (eNew (nLst [])))
    (sSeq (sFgt [5, 6] (sFor [5, 6] (.nm 5) (iR1 (eVar 2)) b_law_rows_1))
    (sRet (eCall tupD [(eVar 4)]))))
noncomputable def F_law_rows : List D → Sto → Res D := runD .frz 7 b_law_rows
theorem k_law_rows (T : Bt K mg) (Ee : Er K mg cl) (Kk : Kl K mg cl) (I : DefIn K mg "_law_rows" s_law_rows ["_law_rest", "_law_keys_here", "_law_many", "_law_far"]) (G_law_digit : DefOk P w K mg base cl "_law_digit" 1 ["_law_rest", "_law_many"] F_law_digit) (G_law_whole : DefOk P w K mg base cl "_law_whole" 2 ["_law_rest"] F_law_whole) : DefOk P w K mg base cl "_law_rows" 3 ["_law_rest", "_law_keys_here", "_law_many", "_law_far"] F_law_rows := by
  refine def_ok (k := 2) I c_law_rows fun f cdv A outer s H E hr => ?_
  have nd := c_law_rows.nd
  have tk : L2N.Takes (cxOf (L2N.CX P w) P w K mg base ["_law_rest", "_law_keys_here", "_law_many", "_law_far", "_law_found", "_law_k", "_law_often"] "_law_rows" (defScope s_law_rows) f cdv A outer s H E) (fun c d _ H => E c d H)   := L2N.takes_of rfl rfl rfl rfl
  have hp : PassesOwn (model P w) (cxOf (L2N.CX P w) P w K mg base ["_law_rest", "_law_keys_here", "_law_many", "_law_far", "_law_found", "_law_k", "_law_often"] "_law_rows" (defScope s_law_rows) f cdv A outer s H E).A (cxOf (L2N.CX P w) P w K mg base ["_law_rest", "_law_keys_here", "_law_many", "_law_far", "_law_found", "_law_k", "_law_often"] "_law_rows" (defScope s_law_rows) f cdv A outer s H E).env (cxOf (L2N.CX P w) P w K mg base ["_law_rest", "_law_keys_here", "_law_many", "_law_far", "_law_found", "_law_k", "_law_often"] "_law_rows" (defScope s_law_rows) f cdv A outer s H E).xe := passes_of rfl
  exact (qb_cons (qs_set nd rfl (by first | exact Or.inl rfl | exact Or.inr rfl) (qe_new (qn_lst qa_nil)))
    (qb_cons (qs_fgt [5, 6] (qs_for [5, 6] hp rfl (qi_r1 (by rfl) T.range (qv 2)) (qg_nm nd rfl (by first | exact Or.inl rfl | exact Or.inr rfl))
    (qb_cons (qs_set nd rfl (by first | exact Or.inl rfl | exact Or.inr rfl) (qe_fn (G_law_digit.mono (by decide)) hr (by rfl) tk (qa_cons (qv 0) (qa_cons qe_int qa_nil))))
    (qb_cons (qs_if (qt_val (qv 3)) (qb_one (qs_set nd rfl (by first | exact Or.inl rfl | exact Or.inr rfl) (qe_fn (G_law_whole.mono (by decide)) hr (by rfl) tk (qa_cons (qv 0) qa_nil)))) qb_nil)
    (qb_one (qs_expr (qe_append (qv 4) (qe_tup (qa_cons (qe_ix hr (qv 1) (qe_fn (G_law_digit.mono (by decide)) hr (by rfl) tk (qa_cons (qv 0) (qa_cons (qe_len (by rfl) T.len (qa_cons (qv 1) qa_nil)) qa_nil)))) (qa_cons (qv 6) qa_nil))))))))))
    (qb_one (qs_ret (qe_tuple (by rfl) T.tuple (qa_cons (qv 4) qa_nil))))))
noncomputable abbrev s_law_heap : Stmt := topS 20
theorem c_law_heap : FnScope ["_law_rows_here", "_law_found", "_law_key", "_law_many"] ["_law_rows_here"] (defScope s_law_heap) := ⟨rfl, rfl, rfl, by decide +kernel, rfl, by decide +kernel, by decide +kernel⟩
noncomputable def b_law_heap_1 : Stm := (sIf (tAndD (eTB (e2 gtD (eVar 3) (eC (.int 0)))) (tAndD (eTB (e2 (eqD true) (eVar 1) (eAno (nLst [])))) (eTB (e2 (eqD false) (e2 ixD (e2 ixD (eVar 1) (e1 negD (eC (.int 1)))) (eC (.int 0))) (eVar 2))))) (sSt (eTup [(eVar 2), (e2 addD (e2 ixD (e2 ixD (eVar 1) (e1 negD (eC (.int 1)))) (eC (.int 1))) (eVar 3))]) (eVar 1) (e1 negD (eC (.int 1)))) (sIf (eTB (e2 gtD (eVar 3) (eC (.int 0)))) (sExpr (eM "list" appD (eVar 1) [(eTup [(eVar 2), (eVar 3)])])) sNext))
noncomputable def b_law_heap : Stm := (sSeq (sSet 1 (eNew (nLst [])))
    (sSeq (sFgt [2, 3] (sFor [2, 3] (.tp [(.nm 2), (.nm 3)]) (iS (eVar 0)) b_law_heap_1))
    (sRet (eCall tupD [(eVar 1)]))))
noncomputable def F_law_heap : List D → Sto → Res D := runD .frz 4 b_law_heap
theorem k_law_heap (T : Bt K mg) (Ee : Er K mg cl) (Kk : Kl K mg cl) (I : DefIn K mg "_law_heap" s_law_heap ["_law_rows_here"])  : DefOk P w K mg base cl "_law_heap" 1 ["_law_rows_here"] F_law_heap := by
  refine def_ok (k := 0) I c_law_heap fun f cdv A outer s H E hr => ?_
  have nd := c_law_heap.nd
  have tk : L2N.Takes (cxOf (L2N.CX P w) P w K mg base ["_law_rows_here", "_law_found", "_law_key", "_law_many"] "_law_heap" (defScope s_law_heap) f cdv A outer s H E) (fun c d _ H => E c d H)   := L2N.takes_of rfl rfl rfl rfl
  have hp : PassesOwn (model P w) (cxOf (L2N.CX P w) P w K mg base ["_law_rows_here", "_law_found", "_law_key", "_law_many"] "_law_heap" (defScope s_law_heap) f cdv A outer s H E).A (cxOf (L2N.CX P w) P w K mg base ["_law_rows_here", "_law_found", "_law_key", "_law_many"] "_law_heap" (defScope s_law_heap) f cdv A outer s H E).env (cxOf (L2N.CX P w) P w K mg base ["_law_rows_here", "_law_found", "_law_key", "_law_many"] "_law_heap" (defScope s_law_heap) f cdv A outer s H E).xe := passes_of rfl
  exact (qb_cons (qs_set nd rfl (by first | exact Or.inl rfl | exact Or.inr rfl) (qe_new (qn_lst qa_nil)))
    (qb_cons (qs_fgt [2, 3] (qs_for [2, 3] hp rfl (qi_s (qv 0)) (qg_tp rfl (qgs_cons (qg_nm nd rfl (by first | exact Or.inl rfl | exact Or.inr rfl)) (qgs_cons (qg_nm nd rfl (by first | exact Or.inl rfl | exact Or.inr rfl)) qgs_nil)) rfl)
    (qb_one (qs_if (PW.pt (qw_and (qt_gt (qv 3) qe_int) (qw_and (qt_ne hr (qv 1) (qe_ano (qn_lst qa_nil))) (qw_and1 (qt_eq hr (qe_ix hr (qe_ix hr (qv 1) (qe_neg qe_int)) qe_int) (qv 2)))))) (qb_one (qs_st hr (qe_tup (qa_cons (qv 2) (qa_cons (qe_add (qe_ix hr (qe_ix hr (qv 1) (qe_neg qe_int)) qe_int) (qv 3)) qa_nil))) (qv 1) (qe_neg qe_int))) (qb_one (qs_if (qt_gt (qv 3) qe_int) (qb_one (qs_expr (qe_append (qv 1) (qe_tup (qa_cons (qv 2) (qa_cons (qv 3) qa_nil)))))) qb_nil))))))
    (qb_one (qs_ret (qe_tuple (by rfl) T.tuple (qa_cons (qv 1) qa_nil))))))
noncomputable abbrev s_law_table : Stmt := topS 21
theorem c_law_table : FnScope ["_law_rest", "_law_keys_here", "_law_far", "_law_bins", "_law_more", "_law_key"] ["_law_rest", "_law_keys_here", "_law_far"] (defScope s_law_table) := ⟨rfl, rfl, rfl, by decide +kernel, rfl, by decide +kernel, by decide +kernel⟩
noncomputable def b_law_table : Stm := (sSeq (sSet 3 (e2 addD (eC (.int 1)) (eFn F_law_digit [(eVar 0), (e2 ixD (eTup [(eC (.int 1)), (eC (.int 3)), (eC (.int 6))]) (eFn F_law_digit [(eVar 0), (eC (.int 3))]))])))
    (sSeq (sIf (tAndD (eTr (eVar 2)) (eTB (e2 (eqD false) (eFn F_law_digit [(eVar 0), (eC (.int 3))]) (eC (.int 1))))) (sSet 3 (e2 addD (eC (.int 1)) (eFn F_law_digit [(eVar 0), (e2 powD (eC (.int 10)) (eC (.int 59)))]))) sNext)
    (sSeq (sSet 4 (eAno (nLc [5] (.nm 5) (iS (eVar 1)) (tAndD (eTB (e2 (inD true) (e2 addD (eVar 5) (eC (.int 1))) (eVar 1))) (eTB (e2 (eqD false) (eFn F_law_digit [(eVar 0), (eC (.int 4))]) (eC (.int 1))))) (e2 addD (eVar 5) (eC (.int 1))))))
    (sRet (eTup [(eVar 3), (eCall tupD [(eAno (nLc [5] (.nm 5) (iS (eAno (nSort (e2 addD (eVar 1) (eVar 4))))) tYesD (eTup [(eVar 5), (eFn F_law_digit [(eVar 0), (eVar 3)])])))])])))))
noncomputable def F_law_table : List D → Sto → Res D := runD .frz 6 b_law_table
theorem k_law_table (T : Bt K mg) (Ee : Er K mg cl) (Kk : Kl K mg cl) (I : DefIn K mg "_law_table" s_law_table ["_law_rest", "_law_keys_here", "_law_far"]) (G_law_digit : DefOk P w K mg base cl "_law_digit" 1 ["_law_rest", "_law_many"] F_law_digit) : DefOk P w K mg base cl "_law_table" 2 ["_law_rest", "_law_keys_here", "_law_far"] F_law_table := by
  refine def_ok (k := 1) I c_law_table fun f cdv A outer s H E hr => ?_
  have nd := c_law_table.nd
  have tk : L2N.Takes (cxOf (L2N.CX P w) P w K mg base ["_law_rest", "_law_keys_here", "_law_far", "_law_bins", "_law_more", "_law_key"] "_law_table" (defScope s_law_table) f cdv A outer s H E) (fun c d _ H => E c d H)   := L2N.takes_of rfl rfl rfl rfl
  have hp : PassesOwn (model P w) (cxOf (L2N.CX P w) P w K mg base ["_law_rest", "_law_keys_here", "_law_far", "_law_bins", "_law_more", "_law_key"] "_law_table" (defScope s_law_table) f cdv A outer s H E).A (cxOf (L2N.CX P w) P w K mg base ["_law_rest", "_law_keys_here", "_law_far", "_law_bins", "_law_more", "_law_key"] "_law_table" (defScope s_law_table) f cdv A outer s H E).env (cxOf (L2N.CX P w) P w K mg base ["_law_rest", "_law_keys_here", "_law_far", "_law_bins", "_law_more", "_law_key"] "_law_table" (defScope s_law_table) f cdv A outer s H E).xe := passes_of rfl
  exact (qb_cons (qs_set nd rfl (by first | exact Or.inl rfl | exact Or.inr rfl) (qe_add qe_int (qe_fn (G_law_digit.mono (by decide)) hr (by rfl) tk (qa_cons (qv 0) (qa_cons (qe_ix hr (qe_tup (qa_cons qe_int (qa_cons qe_int (qa_cons qe_int qa_nil)))) (qe_fn (G_law_digit.mono (by decide)) hr (by rfl) tk (qa_cons (qv 0) (qa_cons qe_int qa_nil)))) qa_nil)))))
    (qb_cons (qs_if (PW.pt (qw_and (qt_val (qv 2)) (qw_and1 (qt_eq hr (qe_fn (G_law_digit.mono (by decide)) hr (by rfl) tk (qa_cons (qv 0) (qa_cons qe_int qa_nil))) qe_int)))) (qb_one (qs_set nd rfl (by first | exact Or.inl rfl | exact Or.inr rfl) (qe_add qe_int (qe_fn (G_law_digit.mono (by decide)) hr (by rfl) tk (qa_cons (qv 0) (qa_cons (qe_pow qe_int qe_int) qa_nil)))))) qb_nil)
    (qb_cons (qs_setLc (own := [("_law_key", 5)]) rfl nd rfl rfl (sw_true rfl rfl rfl (by decide +kernel)) (qi_s (qv 1)) (blkOk_by (by rfl)) (by decide) (fun _ _ _ _ _ => (qg_nm nd rfl (by first | exact Or.inl rfl | exact Or.inr rfl))) (fun _ _ _ _ _ => (qts_one (PW.pt (qw_and (qt_notIn hr (qe_add (qv 5) qe_int) (qv 1)) (qw_and1 (qt_eq hr (qe_fn (G_law_digit.mono (by decide)) hr (by rfl) takesN (qa_cons (qv 0) (qa_cons qe_int qa_nil))) qe_int)))))) (fun _ _ _ _ _ => (qe_add (qv 5) qe_int)) imp_ano)
    (qb_one (qs_ret (qe_tup (qa_cons (qv 3) (qa_cons (qe_tuple (by rfl) T.tuple (qa_cons (qe_ano (qn_lc (own := [("_law_key", 5)]) rfl nd (qi_s (qe_ano (qn_sort rfl (by rfl) T.sorted (qe_add (qv 1) (qv 4))))) (blkOk_by (by rfl)) (by decide) (fun _ _ _ _ _ => (qg_nm nd rfl (by first | exact Or.inl rfl | exact Or.inr rfl))) (fun _ _ _ _ _ => qts_nil) (fun _ _ _ _ _ => (qe_tup (qa_cons (qv 5) (qa_cons (qe_fn (G_law_digit.mono (by decide)) hr (by rfl) takesN (qa_cons (qv 0) (qa_cons (qv 3) qa_nil))) qa_nil)))))) qa_nil)) qa_nil))))))))
noncomputable abbrev s_law_letters : Stmt := topS 22
theorem c_law_letters : FnScope ["_law_one", "_law_found", "_law_key", "_law_many"] ["_law_one"] (defScope s_law_letters) := ⟨rfl, rfl, rfl, by decide +kernel, rfl, by decide +kernel, by decide +kernel⟩
noncomputable def b_law_letters_1 : Stm := (sSet 1 (eNew (nCat (eVar 1) (e2 mulD (eAno (nLst [(eVar 2)])) (eVar 3)))))
noncomputable def b_law_letters : Stm := (sSeq (sSet 1 (eNew (nLst [])))
    (sSeq (sFgt [2, 3] (sFor [2, 3] (.tp [(.nm 2), (.nm 3)]) (iS (eVar 0)) b_law_letters_1))
    (sRet (eVar 1))))
noncomputable def F_law_letters : List D → Sto → Res D := runD .new 4 b_law_letters
theorem k_law_letters (T : Bt K mg) (Ee : Er K mg cl) (Kk : Kl K mg cl) (I : DefIn K mg "_law_letters" s_law_letters ["_law_one"])  : DefOk P w K mg base cl "_law_letters" 1 ["_law_one"] F_law_letters := by
  refine def_ok (k := 0) I c_law_letters fun f cdv A outer s H E hr => ?_
  have nd := c_law_letters.nd
  have tk : L2N.Takes (cxOf (L2N.CX P w) P w K mg base ["_law_one", "_law_found", "_law_key", "_law_many"] "_law_letters" (defScope s_law_letters) f cdv A outer s H E) (fun c d _ H => E c d H)   := L2N.takes_of rfl rfl rfl rfl
  have hp : PassesOwn (model P w) (cxOf (L2N.CX P w) P w K mg base ["_law_one", "_law_found", "_law_key", "_law_many"] "_law_letters" (defScope s_law_letters) f cdv A outer s H E).A (cxOf (L2N.CX P w) P w K mg base ["_law_one", "_law_found", "_law_key", "_law_many"] "_law_letters" (defScope s_law_letters) f cdv A outer s H E).env (cxOf (L2N.CX P w) P w K mg base ["_law_one", "_law_found", "_law_key", "_law_many"] "_law_letters" (defScope s_law_letters) f cdv A outer s H E).xe := passes_of rfl
  exact (qb_cons (qs_set nd rfl (by first | exact Or.inl rfl | exact Or.inr rfl) (qe_new (qn_lst qa_nil)))
    (qb_cons (qs_fgt [2, 3] (qs_for [2, 3] hp rfl (qi_s (qv 0)) (qg_tp rfl (qgs_cons (qg_nm nd rfl (by first | exact Or.inl rfl | exact Or.inr rfl)) (qgs_cons (qg_nm nd rfl (by first | exact Or.inl rfl | exact Or.inr rfl)) qgs_nil)) rfl)
    (qb_one (qs_set nd rfl (by first | exact Or.inl rfl | exact Or.inr rfl) (qe_new (qn_cat (qv 1) (qe_mul (qe_ano (qn_lst (qa_cons (qv 2) qa_nil))) (qv 3))))))))
    (qb_one (qs_ret (qv 1)))))
noncomputable abbrev s_law_of_letters : Stmt := topS 23
theorem c_law_of_letters : FnScope ["_law_letters_here", "_law_key"] ["_law_letters_here"] (defScope s_law_of_letters) := ⟨rfl, rfl, rfl, by decide +kernel, rfl, by decide +kernel, by decide +kernel⟩
noncomputable def b_law_of_letters : Stm := (sRet (eFn F_law_heap [(eAno (nLc [1] (.nm 1) (iS (eVar 0)) tYesD (eTup [(eVar 1), (eC (.int 1))])))]))
noncomputable def F_law_of_letters : List D → Sto → Res D := runD .frz 2 b_law_of_letters
theorem k_law_of_letters (T : Bt K mg) (Ee : Er K mg cl) (Kk : Kl K mg cl) (I : DefIn K mg "_law_of_letters" s_law_of_letters ["_law_letters_here"]) (G_law_heap : DefOk P w K mg base cl "_law_heap" 1 ["_law_rows_here"] F_law_heap) : DefOk P w K mg base cl "_law_of_letters" 2 ["_law_letters_here"] F_law_of_letters := by
  refine def_ok (k := 1) I c_law_of_letters fun f cdv A outer s H E hr => ?_
  have nd := c_law_of_letters.nd
  have tk : L2N.Takes (cxOf (L2N.CX P w) P w K mg base ["_law_letters_here", "_law_key"] "_law_of_letters" (defScope s_law_of_letters) f cdv A outer s H E) (fun c d _ H => E c d H)   := L2N.takes_of rfl rfl rfl rfl
  have hp : PassesOwn (model P w) (cxOf (L2N.CX P w) P w K mg base ["_law_letters_here", "_law_key"] "_law_of_letters" (defScope s_law_of_letters) f cdv A outer s H E).A (cxOf (L2N.CX P w) P w K mg base ["_law_letters_here", "_law_key"] "_law_of_letters" (defScope s_law_of_letters) f cdv A outer s H E).env (cxOf (L2N.CX P w) P w K mg base ["_law_letters_here", "_law_key"] "_law_of_letters" (defScope s_law_of_letters) f cdv A outer s H E).xe := passes_of rfl
  exact (qb_one (qs_ret (qe_fn (G_law_heap.mono (by decide)) hr (by rfl) tk (qa_cons (qe_ano (qn_lc (own := [("_law_key", 1)]) rfl nd (qi_s (qv 0)) (blkOk_by (by rfl)) (by decide) (fun _ _ _ _ _ => (qg_nm nd rfl (by first | exact Or.inl rfl | exact Or.inr rfl))) (fun _ _ _ _ _ => qts_nil) (fun _ _ _ _ _ => (qe_tup (qa_cons (qv 1) (qa_cons qe_int qa_nil)))))) qa_nil))))
noncomputable abbrev s_law_small : Stmt := topS 25
theorem c_law_small : FnScope ["_law_script", "_law_rest", "_law_keys_here", "_law_one", "_law_table_here"] ["_law_script"] (defScope s_law_small) := ⟨rfl, rfl, rfl, by decide +kernel, rfl, by decide +kernel, by decide +kernel⟩
noncomputable def b_law_small : Stm := (sSeq (sSet 1 (eNew (nLst [(eFn F_law_big [(eVar 0), (eC (.int 0))])])))
    (sSeq (sSet 2 (eFn F_law_keys [(eVar 1), (e2 addD (eC (.int 1)) (eFn F_law_digit [(eVar 1), (eC (.int 5))]))]))
    (sSeq (sSet 3 (eFn F_law_heap [(eFn F_law_rows [(eNew (nLst [(eFn F_law_big [(eVar 0), (eC (.int 7))])])), (eVar 2), (eFn F_law_digit [(eVar 1), (eC (.int 13))]), (eC (.bl false))])]))
    (sSeq (sSet 4 (eFn F_law_table [(eVar 1), (eVar 2), (eC (.bl false))]))
    (sRet (eTup [(eVar 3), (eVar 4), (e2 addD (eC (.int 1)) (eFn F_law_digit [(eVar 1), (e2 ixD (eTup [(eC (.int 1)), (eC (.int 3)), (eC (.int 8))]) (eFn F_law_digit [(eVar 1), (eC (.int 3))]))]))]))))))
noncomputable def F_law_small : List D → Sto → Res D := runD .frz 5 b_law_small
theorem k_law_small (T : Bt K mg) (Ee : Er K mg cl) (Kk : Kl K mg cl) (I : DefIn K mg "_law_small" s_law_small ["_law_script"]) (G_law_keys : DefOk P w K mg base cl "_law_keys" 2 ["_law_rest", "_law_many"] F_law_keys) (G_law_heap : DefOk P w K mg base cl "_law_heap" 1 ["_law_rows_here"] F_law_heap) (G_law_table : DefOk P w K mg base cl "_law_table" 2 ["_law_rest", "_law_keys_here", "_law_far"] F_law_table) (G_law_big : DefOk P w K mg base cl "_law_big" 2 ["_law_script", "_law_at"] F_law_big) (G_law_rows : DefOk P w K mg base cl "_law_rows" 3 ["_law_rest", "_law_keys_here", "_law_many", "_law_far"] F_law_rows) (G_law_digit : DefOk P w K mg base cl "_law_digit" 1 ["_law_rest", "_law_many"] F_law_digit) : DefOk P w K mg base cl "_law_small" 4 ["_law_script"] F_law_small := by
  refine def_ok (k := 3) I c_law_small fun f cdv A outer s H E hr => ?_
  have nd := c_law_small.nd
  have tk : L2N.Takes (cxOf (L2N.CX P w) P w K mg base ["_law_script", "_law_rest", "_law_keys_here", "_law_one", "_law_table_here"] "_law_small" (defScope s_law_small) f cdv A outer s H E) (fun c d _ H => E c d H)   := L2N.takes_of rfl rfl rfl rfl
  have hp : PassesOwn (model P w) (cxOf (L2N.CX P w) P w K mg base ["_law_script", "_law_rest", "_law_keys_here", "_law_one", "_law_table_here"] "_law_small" (defScope s_law_small) f cdv A outer s H E).A (cxOf (L2N.CX P w) P w K mg base ["_law_script", "_law_rest", "_law_keys_here", "_law_one", "_law_table_here"] "_law_small" (defScope s_law_small) f cdv A outer s H E).env (cxOf (L2N.CX P w) P w K mg base ["_law_script", "_law_rest", "_law_keys_here", "_law_one", "_law_table_here"] "_law_small" (defScope s_law_small) f cdv A outer s H E).xe := passes_of rfl
  exact (qb_cons (qs_set nd rfl (by first | exact Or.inl rfl | exact Or.inr rfl) (qe_new (qn_lst (qa_cons (qe_fn (G_law_big.mono (by decide)) hr (by rfl) tk (qa_cons (qv 0) (qa_cons qe_int qa_nil))) qa_nil))))
    (qb_cons (qs_set nd rfl (by first | exact Or.inl rfl | exact Or.inr rfl) (qe_fn (G_law_keys.mono (by decide)) hr (by rfl) tk (qa_cons (qv 1) (qa_cons (qe_add qe_int (qe_fn (G_law_digit.mono (by decide)) hr (by rfl) tk (qa_cons (qv 1) (qa_cons qe_int qa_nil)))) qa_nil))))
    (qb_cons (qs_set nd rfl (by first | exact Or.inl rfl | exact Or.inr rfl) (qe_fn (G_law_heap.mono (by decide)) hr (by rfl) tk (qa_cons (qe_fn (G_law_rows.mono (by decide)) hr (by rfl) tk (qa_cons (qe_new (qn_lst (qa_cons (qe_fn (G_law_big.mono (by decide)) hr (by rfl) tk (qa_cons (qv 0) (qa_cons qe_int qa_nil))) qa_nil))) (qa_cons (qv 2) (qa_cons (qe_fn (G_law_digit.mono (by decide)) hr (by rfl) tk (qa_cons (qv 1) (qa_cons qe_int qa_nil))) (qa_cons qe_bl qa_nil))))) qa_nil)))
    (qb_cons (qs_set nd rfl (by first | exact Or.inl rfl | exact Or.inr rfl) (qe_fn (G_law_table.mono (by decide)) hr (by rfl) tk (qa_cons (qv 1) (qa_cons (qv 2) (qa_cons qe_bl qa_nil)))))
    (qb_one (qs_ret (qe_tup (qa_cons (qv 3) (qa_cons (qv 4) (qa_cons (qe_add qe_int (qe_fn (G_law_digit.mono (by decide)) hr (by rfl) tk (qa_cons (qv 1) (qa_cons (qe_ix hr (qe_tup (qa_cons qe_int (qa_cons qe_int (qa_cons qe_int qa_nil)))) (qe_fn (G_law_digit.mono (by decide)) hr (by rfl) tk (qa_cons (qv 1) (qa_cons qe_int qa_nil)))) qa_nil)))) qa_nil))))))))))
noncomputable abbrev s_law_fed : Stmt := topS 26
theorem c_law_fed : FnScope ["_law_state", "_law_bins", "_law_room", "_law_letters_here", "_law_left", "_law_lying", "_law_out", "_law_came"] ["_law_state", "_law_bins", "_law_room", "_law_letters_here"] (defScope s_law_fed) := ⟨rfl, rfl, rfl, by decide +kernel, rfl, by decide +kernel, by decide +kernel⟩
noncomputable def b_law_fed_1 : Stm := (sSeq (sExpr (eM "list" appD (e2 ixD (eVar 5) (e2 ixD (eVar 1) (e2 ixD (eVar 4) (eC (.int 0))))) [(eM "list" popD (eVar 4) [(eC (.int 0))])]))
    (sSet 7 (e2 addD (eVar 7) (eC (.int 1)))))
noncomputable def b_law_fed : Stm := (sSeq (sAsgL [(.nm 4), (.nm 5), (.nm 6)] (eVar 0))
    (sSeq (sSet 7 (eC (.int 0)))
    (sSeq (whileD [] (tAndD (eTB (e2 (eqD true) (eVar 4) (eAno (nLst [])))) (tAndD (eTB (e2 ltD (eVar 7) (eVar 3))) (eTB (e2 ltD (eCall lenD [(e2 ixD (eVar 5) (e2 ixD (eVar 1) (e2 ixD (eVar 4) (eC (.int 0)))))]) (eVar 2))))) b_law_fed_1)
    (sRet (eVar 7)))))
noncomputable def F_law_fed : List D → Sto → Res D := runD .frz 8 b_law_fed
theorem k_law_fed (T : Bt K mg) (Ee : Er K mg cl) (Kk : Kl K mg cl) (I : DefIn K mg "_law_fed" s_law_fed ["_law_state", "_law_bins", "_law_room", "_law_letters_here"])  : DefOk P w K mg base cl "_law_fed" 1 ["_law_state", "_law_bins", "_law_room", "_law_letters_here"] F_law_fed := by
  refine def_ok (k := 0) I c_law_fed fun f cdv A outer s H E hr => ?_
  have nd := c_law_fed.nd
  have tk : L2N.Takes (cxOf (L2N.CX P w) P w K mg base ["_law_state", "_law_bins", "_law_room", "_law_letters_here", "_law_left", "_law_lying", "_law_out", "_law_came"] "_law_fed" (defScope s_law_fed) f cdv A outer s H E) (fun c d _ H => E c d H)   := L2N.takes_of rfl rfl rfl rfl
  have hp : PassesOwn (model P w) (cxOf (L2N.CX P w) P w K mg base ["_law_state", "_law_bins", "_law_room", "_law_letters_here", "_law_left", "_law_lying", "_law_out", "_law_came"] "_law_fed" (defScope s_law_fed) f cdv A outer s H E).A (cxOf (L2N.CX P w) P w K mg base ["_law_state", "_law_bins", "_law_room", "_law_letters_here", "_law_left", "_law_lying", "_law_out", "_law_came"] "_law_fed" (defScope s_law_fed) f cdv A outer s H E).env (cxOf (L2N.CX P w) P w K mg base ["_law_state", "_law_bins", "_law_room", "_law_letters_here", "_law_left", "_law_lying", "_law_out", "_law_came"] "_law_fed" (defScope s_law_fed) f cdv A outer s H E).xe := passes_of rfl
  exact (qb_cons (qs_asgL rfl (qv 0) (qgs_cons (qg_nm nd rfl (by first | exact Or.inl rfl | exact Or.inr rfl)) (qgs_cons (qg_nm nd rfl (by first | exact Or.inl rfl | exact Or.inr rfl)) (qgs_cons (qg_nm nd rfl (by first | exact Or.inl rfl | exact Or.inr rfl)) qgs_nil))) rfl)
    (qb_cons (qs_set nd rfl (by first | exact Or.inl rfl | exact Or.inr rfl) qe_int)
    (qb_cons (qs_while [] hp (PW.pt (qw_and (qt_ne hr (qv 4) (qe_ano (qn_lst qa_nil))) (qw_and (qt_lt (qv 7) (qv 3)) (qw_and1 (qt_lt (qe_len (by rfl) T.len (qa_cons (qe_ix hr (qv 5) (qe_ix hr (qv 1) (qe_ix hr (qv 4) qe_int))) qa_nil)) (qv 2))))))
    (qb_cons (qs_expr (qe_append (qe_ix hr (qv 5) (qe_ix hr (qv 1) (qe_ix hr (qv 4) qe_int))) (qe_pop1 (qv 4) qe_int)))
    (qb_one (qs_set nd rfl (by first | exact Or.inl rfl | exact Or.inr rfl) (qe_add (qv 7) qe_int)))))
    (qb_one (qs_ret (qv 7))))))
noncomputable abbrev s_law_waits : Stmt := topS 27
theorem c_law_waits : FnScope ["_law_state", "_law_bins", "_law_room"] ["_law_state", "_law_bins", "_law_room"] (defScope s_law_waits) := ⟨rfl, rfl, rfl, by decide +kernel, rfl, by decide +kernel, by decide +kernel⟩
noncomputable def b_law_waits : Stm := (sSeq (sIf (tAndD (eTB (e2 (eqD true) (e2 ixD (eVar 0) (eC (.int 0))) (eAno (nLst [])))) (eTB (e2 (eqD false) (eCall lenD [(e2 ixD (e2 ixD (eVar 0) (eC (.int 1))) (e2 ixD (eVar 1) (e2 ixD (e2 ixD (eVar 0) (eC (.int 0))) (eC (.int 0)))))]) (eVar 2)))) (sRet (e2 ixD (eVar 1) (e2 ixD (e2 ixD (eVar 0) (eC (.int 0))) (eC (.int 0))))) sNext)
    (sRet (eC .non)))
noncomputable def F_law_waits : List D → Sto → Res D := runD .frz 3 b_law_waits
theorem k_law_waits (T : Bt K mg) (Ee : Er K mg cl) (Kk : Kl K mg cl) (I : DefIn K mg "_law_waits" s_law_waits ["_law_state", "_law_bins", "_law_room"])  : DefOk P w K mg base cl "_law_waits" 1 ["_law_state", "_law_bins", "_law_room"] F_law_waits := by
  refine def_ok (k := 0) I c_law_waits fun f cdv A outer s H E hr => ?_
  have nd := c_law_waits.nd
  have tk : L2N.Takes (cxOf (L2N.CX P w) P w K mg base ["_law_state", "_law_bins", "_law_room"] "_law_waits" (defScope s_law_waits) f cdv A outer s H E) (fun c d _ H => E c d H)   := L2N.takes_of rfl rfl rfl rfl
  have hp : PassesOwn (model P w) (cxOf (L2N.CX P w) P w K mg base ["_law_state", "_law_bins", "_law_room"] "_law_waits" (defScope s_law_waits) f cdv A outer s H E).A (cxOf (L2N.CX P w) P w K mg base ["_law_state", "_law_bins", "_law_room"] "_law_waits" (defScope s_law_waits) f cdv A outer s H E).env (cxOf (L2N.CX P w) P w K mg base ["_law_state", "_law_bins", "_law_room"] "_law_waits" (defScope s_law_waits) f cdv A outer s H E).xe := passes_of rfl
  exact (qb_cons (qs_if (PW.pt (qw_and (qt_ne hr (qe_ix hr (qv 0) qe_int) (qe_ano (qn_lst qa_nil))) (qw_and1 (qt_eq hr (qe_len (by rfl) T.len (qa_cons (qe_ix hr (qe_ix hr (qv 0) qe_int) (qe_ix hr (qv 1) (qe_ix hr (qe_ix hr (qv 0) qe_int) qe_int))) qa_nil)) (qv 2))))) (qb_one (qs_ret (qe_ix hr (qv 1) (qe_ix hr (qe_ix hr (qv 0) qe_int) qe_int)))) qb_nil)
    (qb_one (qs_ret qe_non)))
noncomputable abbrev s_law_seen : Stmt := topS 28
theorem c_law_seen : FnScope ["_law_frame", "_law_state", "_law_bins", "_law_room", "_law_left", "_law_lying", "_law_out", "_law_want", "_law_number", "_law_found"] ["_law_frame", "_law_state", "_law_bins", "_law_room"] (defScope s_law_seen) := ⟨rfl, rfl, rfl, by decide +kernel, rfl, by decide +kernel, by decide +kernel⟩
noncomputable def b_law_seen_1 : Stm := (sSeq (sIf (eTB (e2 (eqD true) (eMeth "Frame" "lies" FFrame_lies (eVar 0) [(eVar 8)]) (eFn F_law_of_letters [(e2 ixF (eVar 5) (eVar 8))]))) (sRet (eC (.bl false))) sNext)
    (sIf (eTB (e2 (eqD true) (eMeth "Frame" "taken" FFrame_taken (eVar 0) [(eVar 8)]) (eFn F_law_of_letters [(e2 ixD (eVar 6) (eVar 8))]))) (sRet (eC (.bl false))) sNext))
noncomputable def b_law_seen_2 : Stm := (sSet 7 (e2 addD (e2 addD (eVar 7) (e2 ixD (eVar 6) (eVar 8))) (e2 ixD (eVar 5) (eVar 8))))
noncomputable def b_law_seen : Stm := (sSeq (sAsgL [(.nm 4), (.nm 5), (.nm 6)] (eVar 1))
    (sSeq (sIf (tOrD (eTB (e2 (eqD true) (eMeth "Frame" "waits" FFrame_waits (eVar 0) []) (eFn F_law_waits [(eVar 1), (eVar 2), (eVar 3)]))) (eTB (e2 (eqD true) (eMeth "Frame" "rest" FFrame_rest (eVar 0) []) (eFn F_law_of_letters [(eVar 4)])))) (sRet (eC (.bl false))) sNext)
    (sSeq (sSet 7 (eAno (nLst [])))
    (sSeq (sFgt [8] (sForK [8] (.nm 8) 5 b_law_seen_1))
    (sSeq (sFgt [8] (sFor [8] (.nm 8) (iS (eAno (nSort (eVar 5)))) b_law_seen_2))
    (sSeq (sTry0 [("NotDone", true)] (sSet 9 (eMeth "Frame" "comes" FFrame_comes (eVar 0) [])) (fun _ => (sRet (e2 (eqD true) (eVar 4) (eAno (nLst []))))))
    (sRet (eAndD (e2 (eqD false) (eVar 4) (eAno (nLst []))) (e2 (eqD false) (eVar 9) (eFn F_law_of_letters [(eVar 7)]))))))))))
noncomputable def F_law_seen : List D → Sto → Res D := runD .frz 10 b_law_seen
theorem k_law_seen (T : Bt K mg) (Ee : Er K mg cl) (Kk : Kl K mg cl) (I : DefIn K mg "_law_seen" s_law_seen ["_law_frame", "_law_state", "_law_bins", "_law_room"]) (GFrame_comes : MethOk P w K mg base cl "Frame" "comes" 3 ["self"] FFrame_comes) (GFrame_waits : MethOk P w K mg base cl "Frame" "waits" 3 ["self"] FFrame_waits) (G_law_waits : DefOk P w K mg base cl "_law_waits" 1 ["_law_state", "_law_bins", "_law_room"] F_law_waits) (GFrame_rest : MethOk P w K mg base cl "Frame" "rest" 1 ["self"] FFrame_rest) (G_law_of_letters : DefOk P w K mg base cl "_law_of_letters" 2 ["_law_letters_here"] F_law_of_letters) (GFrame_lies : MethOk P w K mg base cl "Frame" "lies" 2 ["self", "number"] FFrame_lies) (GFrame_taken : MethOk P w K mg base cl "Frame" "taken" 2 ["self", "number"] FFrame_taken) : DefOk P w K mg base cl "_law_seen" 4 ["_law_frame", "_law_state", "_law_bins", "_law_room"] F_law_seen := by
  refine def_ok (k := 3) I c_law_seen fun f cdv A outer s H E hr => ?_
  have nd := c_law_seen.nd
  have tk : L2N.Takes (cxOf (L2N.CX P w) P w K mg base ["_law_frame", "_law_state", "_law_bins", "_law_room", "_law_left", "_law_lying", "_law_out", "_law_want", "_law_number", "_law_found"] "_law_seen" (defScope s_law_seen) f cdv A outer s H E) (fun c d _ H => E c d H)   := L2N.takes_of rfl rfl rfl rfl
  have hp : PassesOwn (model P w) (cxOf (L2N.CX P w) P w K mg base ["_law_frame", "_law_state", "_law_bins", "_law_room", "_law_left", "_law_lying", "_law_out", "_law_want", "_law_number", "_law_found"] "_law_seen" (defScope s_law_seen) f cdv A outer s H E).A (cxOf (L2N.CX P w) P w K mg base ["_law_frame", "_law_state", "_law_bins", "_law_room", "_law_left", "_law_lying", "_law_out", "_law_want", "_law_number", "_law_found"] "_law_seen" (defScope s_law_seen) f cdv A outer s H E).env (cxOf (L2N.CX P w) P w K mg base ["_law_frame", "_law_state", "_law_bins", "_law_room", "_law_left", "_law_lying", "_law_out", "_law_want", "_law_number", "_law_found"] "_law_seen" (defScope s_law_seen) f cdv A outer s H E).xe := passes_of rfl
  exact (qb_cons (qs_asgL rfl (qv 1) (qgs_cons (qg_nm nd rfl (by first | exact Or.inl rfl | exact Or.inr rfl)) (qgs_cons (qg_nm nd rfl (by first | exact Or.inl rfl | exact Or.inr rfl)) (qgs_cons (qg_nm nd rfl (by first | exact Or.inl rfl | exact Or.inr rfl)) qgs_nil))) rfl)
    (qb_cons (qs_if (PW.pt (qw_or (qt_ne hr (qe_meth0 Kk.c_Frame (GFrame_waits.mono (by decide)) hr tk (qv 0)) (qe_fn (G_law_waits.mono (by decide)) hr (by rfl) tk (qa_cons (qv 1) (qa_cons (qv 2) (qa_cons (qv 3) qa_nil))))) (qw_or1 (qt_ne hr (qe_meth0 Kk.c_Frame (GFrame_rest.mono (by decide)) hr tk (qv 0)) (qe_fn (G_law_of_letters.mono (by decide)) hr (by rfl) tk (qa_cons (qv 4) qa_nil)))))) (qb_one (qs_ret qe_bl)) qb_nil)
    (qb_cons (qs_set nd rfl (by first | exact Or.inl rfl | exact Or.inr rfl) (qe_ano (qn_lst qa_nil)))
    (qb_cons (qs_fgt [8] (qs_forK [8] hp rfl rfl (by first | exact Or.inl rfl | exact Or.inr rfl) (qg_nm nd rfl (by first | exact Or.inl rfl | exact Or.inr rfl))
    (qb_cons (qs_if (qt_ne hr (qe_meth Kk.c_Frame (GFrame_lies.mono (by decide)) hr tk (qv 0) (qa_cons (qv 8) qa_nil)) (qe_fn (G_law_of_letters.mono (by decide)) hr (by rfl) tk (qa_cons (qe_ixF hr (qv 5) (qv 8)) qa_nil))) (qb_one (qs_ret qe_bl)) qb_nil)
    (qb_one (qs_if (qt_ne hr (qe_meth Kk.c_Frame (GFrame_taken.mono (by decide)) hr tk (qv 0) (qa_cons (qv 8) qa_nil)) (qe_fn (G_law_of_letters.mono (by decide)) hr (by rfl) tk (qa_cons (qe_ix hr (qv 6) (qv 8)) qa_nil))) (qb_one (qs_ret qe_bl)) qb_nil)))))
    (qb_cons (qs_fgt [8] (qs_for [8] hp rfl (qi_s (qe_ano (qn_sort rfl (by rfl) T.sorted (qv 5)))) (qg_nm nd rfl (by first | exact Or.inl rfl | exact Or.inr rfl))
    (qb_one (qs_set nd rfl (by first | exact Or.inl rfl | exact Or.inr rfl) (qe_add (qe_add (qv 7) (qe_ix hr (qv 6) (qv 8))) (qe_ix hr (qv 5) (qv 8)))))))
    (qb_cons (qs_try0 (ks := [("NotDone", true)]) rfl rfl ⟨by rfl, by decide, .inl Ee.c_NotDone.g⟩ tk (fun W0 pn xe tk hp => (qb_one (qs_set nd rfl (by first | exact Or.inl rfl | exact Or.inr rfl) (qe_meth0 Kk.c_Frame (GFrame_comes.mono (by decide)) hr tk (qv 0)))))
    (kc_cons (PySem.W.exm_ref Ee.c_NotDone.b Ee.c_NotDone.d Ee.c_NotDone.t Ee.s_NotDone_NotDone) kc_nil)
    (kc_cons (fun _ => fun a oe pn => (qb_one (qs_ret (qe_neH (roomH_mark hr) (qv 4) (qe_ano (qn_lst qa_nil)))))) kc_nil))
    (qb_one (qs_ret (qe_and (qe_eq hr (qv 4) (qe_ano (qn_lst qa_nil))) (qe_one (qe_eq hr (qv 9) (qe_fn (G_law_of_letters.mono (by decide)) hr (by rfl) tk (qa_cons (qv 7) qa_nil)))))))))))))
noncomputable abbrev s_law_done : Stmt := topS 29
theorem c_law_done : FnScope ["_law_frame", "_law_state", "_law_bins", "_law_room", "_law_rest", "_law_left", "_law_lying", "_law_out", "_law_letters_here", "_law_number", "_law_waits_here", "_law_want"] ["_law_frame", "_law_state", "_law_bins", "_law_room", "_law_rest"] (defScope s_law_done) := ⟨rfl, rfl, rfl, by decide +kernel, rfl, by decide +kernel, by decide +kernel⟩
noncomputable def b_law_done : Stm := (sSeq (sAsgL [(.nm 5), (.nm 6), (.nm 7)] (eVar 1))
    (sSeq (sFgt [8] (sIf (eTB (e2 gtD (eFn F_law_digit [(eVar 4), (eC (.int 3))]) (eC (.int 0)))) (sSeq (sSet 8 (eFn F_law_digit [(eVar 4), (e2 ixD (eTup [(eC (.int 2)), (eC (.int 5)), (eC (.int 40))]) (eFn F_law_digit [(eVar 4), (eC (.int 3))]))]))
    (sRet (e2 (eqD false) (eMeth "Frame" "feed" FFrame_feed (eVar 0) [(eVar 8)]) (eFn F_law_fed [(eVar 1), (eVar 2), (eVar 3), (eVar 8)])))) sNext))
    (sSeq (sSet 9 (e2 ixD (eAno (nSort (eVar 6))) (eFn F_law_digit [(eVar 4), (eCall lenD [(eVar 6)])])))
    (sSeq (sSet 10 (eFn F_law_waits [(eVar 1), (eVar 2), (eVar 3)]))
    (sSeq (sIf (tAndD (eTB (e1 (isND true) (eVar 10))) (eTB (e2 (eqD false) (eFn F_law_digit [(eVar 4), (eC (.int 2))]) (eC (.int 1))))) (sSet 9 (eVar 10)) sNext)
    (sSeq (sSet 11 (eFn F_law_of_letters [(e2 ixD (eVar 6) (eVar 9))]))
    (sSeq (sSt (e2 addD (e2 ixD (eVar 7) (eVar 9)) (e2 ixD (eVar 6) (eVar 9))) (eVar 7) (eVar 9))
    (sSeq (sSt (eNew (nLst [])) (eVar 6) (eVar 9))
    (sRet (e2 (eqD false) (eMeth "Frame" "take" FFrame_take (eVar 0) [(eVar 9)]) (eVar 11)))))))))))
noncomputable def F_law_done : List D → Sto → Res D := runD .keep 12 b_law_done
theorem k_law_done (T : Bt K mg) (Ee : Er K mg cl) (Kk : Kl K mg cl) (I : DefIn K mg "_law_done" s_law_done ["_law_frame", "_law_state", "_law_bins", "_law_room", "_law_rest"]) (G_law_waits : DefOk P w K mg base cl "_law_waits" 1 ["_law_state", "_law_bins", "_law_room"] F_law_waits) (G_law_of_letters : DefOk P w K mg base cl "_law_of_letters" 2 ["_law_letters_here"] F_law_of_letters) (G_law_digit : DefOk P w K mg base cl "_law_digit" 1 ["_law_rest", "_law_many"] F_law_digit) (GFrame_take : MethOk P w K mg base cl "Frame" "take" 3 ["self", "number"] FFrame_take) (GFrame_feed : MethOk P w K mg base cl "Frame" "feed" 3 ["self", "letters"] FFrame_feed) (G_law_fed : DefOk P w K mg base cl "_law_fed" 1 ["_law_state", "_law_bins", "_law_room", "_law_letters_here"] F_law_fed) : DefOk P w K mg base cl "_law_done" 4 ["_law_frame", "_law_state", "_law_bins", "_law_room", "_law_rest"] F_law_done := by
  refine def_ok (k := 3) I c_law_done fun f cdv A outer s H E hr => ?_
  have nd := c_law_done.nd
  have tk : L2N.Takes (cxOf (L2N.CX P w) P w K mg base ["_law_frame", "_law_state", "_law_bins", "_law_room", "_law_rest", "_law_left", "_law_lying", "_law_out", "_law_letters_here", "_law_number", "_law_waits_here", "_law_want"] "_law_done" (defScope s_law_done) f cdv A outer s H E) (fun c d _ H => E c d H)   := L2N.takes_of rfl rfl rfl rfl
  have hp : PassesOwn (model P w) (cxOf (L2N.CX P w) P w K mg base ["_law_frame", "_law_state", "_law_bins", "_law_room", "_law_rest", "_law_left", "_law_lying", "_law_out", "_law_letters_here", "_law_number", "_law_waits_here", "_law_want"] "_law_done" (defScope s_law_done) f cdv A outer s H E).A (cxOf (L2N.CX P w) P w K mg base ["_law_frame", "_law_state", "_law_bins", "_law_room", "_law_rest", "_law_left", "_law_lying", "_law_out", "_law_letters_here", "_law_number", "_law_waits_here", "_law_want"] "_law_done" (defScope s_law_done) f cdv A outer s H E).env (cxOf (L2N.CX P w) P w K mg base ["_law_frame", "_law_state", "_law_bins", "_law_room", "_law_rest", "_law_left", "_law_lying", "_law_out", "_law_letters_here", "_law_number", "_law_waits_here", "_law_want"] "_law_done" (defScope s_law_done) f cdv A outer s H E).xe := passes_of rfl
  exact (qb_cons (qs_asgL rfl (qv 1) (qgs_cons (qg_nm nd rfl (by first | exact Or.inl rfl | exact Or.inr rfl)) (qgs_cons (qg_nm nd rfl (by first | exact Or.inl rfl | exact Or.inr rfl)) (qgs_cons (qg_nm nd rfl (by first | exact Or.inl rfl | exact Or.inr rfl)) qgs_nil))) rfl)
    (qb_cons (qs_fgt [8] (qs_if (qt_gt (qe_fn (G_law_digit.mono (by decide)) hr (by rfl) tk (qa_cons (qv 4) (qa_cons qe_int qa_nil))) qe_int) (qb_cons (qs_set nd rfl (by first | exact Or.inl rfl | exact Or.inr rfl) (qe_fn (G_law_digit.mono (by decide)) hr (by rfl) tk (qa_cons (qv 4) (qa_cons (qe_ix hr (qe_tup (qa_cons qe_int (qa_cons qe_int (qa_cons qe_int qa_nil)))) (qe_fn (G_law_digit.mono (by decide)) hr (by rfl) tk (qa_cons (qv 4) (qa_cons qe_int qa_nil)))) qa_nil))))
    (qb_one (qs_ret (qe_eq hr (qe_meth Kk.c_Frame (GFrame_feed.mono (by decide)) hr tk (qv 0) (qa_cons (qv 8) qa_nil)) (qe_fn (G_law_fed.mono (by decide)) hr (by rfl) tk (qa_cons (qv 1) (qa_cons (qv 2) (qa_cons (qv 3) (qa_cons (qv 8) qa_nil))))))))) qb_nil))
    (qb_cons (qs_set nd rfl (by first | exact Or.inl rfl | exact Or.inr rfl) (qe_ix hr (qe_ano (qn_sort rfl (by rfl) T.sorted (qv 6))) (qe_fn (G_law_digit.mono (by decide)) hr (by rfl) tk (qa_cons (qv 4) (qa_cons (qe_len (by rfl) T.len (qa_cons (qv 6) qa_nil)) qa_nil)))))
    (qb_cons (qs_set nd rfl (by first | exact Or.inl rfl | exact Or.inr rfl) (qe_fn (G_law_waits.mono (by decide)) hr (by rfl) tk (qa_cons (qv 1) (qa_cons (qv 2) (qa_cons (qv 3) qa_nil)))))
    (qb_cons (qs_if (PW.pt (qw_and (qt_notN (qv 10)) (qw_and1 (qt_eq hr (qe_fn (G_law_digit.mono (by decide)) hr (by rfl) tk (qa_cons (qv 4) (qa_cons qe_int qa_nil))) qe_int)))) (qb_one (qs_set nd rfl (by first | exact Or.inl rfl | exact Or.inr rfl) (qv 10))) qb_nil)
    (qb_cons (qs_set nd rfl (by first | exact Or.inl rfl | exact Or.inr rfl) (qe_fn (G_law_of_letters.mono (by decide)) hr (by rfl) tk (qa_cons (qe_ix hr (qv 6) (qv 9)) qa_nil)))
    (qb_cons (qs_st hr (qe_add (qe_ix hr (qv 7) (qv 9)) (qe_ix hr (qv 6) (qv 9))) (qv 7) (qv 9))
    (qb_cons (qs_st hr (qe_new (qn_lst qa_nil)) (qv 6) (qv 9))
    (qb_one (qs_ret (qe_eq hr (qe_meth Kk.c_Frame (GFrame_take.mono (by decide)) hr tk (qv 0) (qa_cons (qv 9) qa_nil)) (qv 11))))))))))))
noncomputable abbrev slaw : Stmt := topS 30
theorem claw : FnScope ["_law_script", "_law_one", "_law_table_here", "_law_room", "_law_bins", "_law_frame", "_law_state", "_law_number", "_law_k", "_law_rest"] ["_law_script"] (defScope slaw) := ⟨rfl, rfl, rfl, by decide +kernel, rfl, by decide +kernel, by decide +kernel⟩
noncomputable def blaw_1 : Stm := (sSeq (sSt (eNew (nLst [])) (e2 ixD (eVar 6) (eC (.int 1))) (eVar 7))
    (sSt (eAno (nLst [])) (e2 ixD (eVar 6) (eC (.int 2))) (eVar 7)))
noncomputable def blaw_2 : Stm := (sSeq (sSet 9 (eNew (nLst [(eFn F_law_big [(eVar 0), (e2 addD (eC (.int 14)) (eVar 8))])])))
    (sSeq (sIf (tNotD (eTr (eFn F_law_done [(eVar 5), (eVar 6), (eVar 4), (eVar 3), (eVar 9)]))) (sRet (eC (.bl false))) sNext)
    (sIf (tAndD (eTB (e2 gtD (eFn F_law_digit [(eVar 9), (eC (.int 3))]) (eC (.int 0)))) (tNotD (eTr (eFn F_law_seen [(eVar 5), (eVar 6), (eVar 4), (eVar 3)])))) (sRet (eC (.bl false))) sNext)))
noncomputable def blaw : Stm := (sSeq (sAsg (.tp [(.nm 1), (.nm 2), (.nm 3)]) (eFn F_law_small [(eVar 0)]))
    (sSeq (sSet 4 (eAno (nDctP (e2 ixD (eVar 2) (eC (.int 1))))))
    (sSeq (sSet 5 (eMake "Frame" FFrame___init__ [(eVar 1), (eVar 2), (eVar 3)]))
    (sSeq (sSet 6 (eAno (nLst [(eFn F_law_letters [(eVar 1)]), (eNew nDct0), (eNew nDct0)])))
    (sSeq (sFgt [7] (sFor [7] (.nm 7) (iR1 (e2 ixD (eVar 2) (eC (.int 0)))) blaw_1))
    (sSeq (sIf (tNotD (eTr (eFn F_law_seen [(eVar 5), (eVar 6), (eVar 4), (eVar 3)]))) (sRet (eC (.bl false))) sNext)
    (sSeq (sFgt [8, 9] (sFor [8, 9] (.nm 8) (iR1 (eCall (ii2D maxI) [(eC (.int 3)), (eCall (ii2D minI) [(eC (.int 12)), (e2 subD (eCall lenD [(eVar 0)]) (eC (.int 14)))])])) blaw_2))
    (sRet (eFn F_law_seen [(eVar 5), (eVar 6), (eVar 4), (eVar 3)])))))))))
noncomputable def Flaw : List D → Sto → Res D := runD .frz 10 blaw
theorem klaw (T : Bt K mg) (Ee : Er K mg cl) (Kk : Kl K mg cl) (I : DefIn K mg "law" slaw ["_law_script"]) (G_law_small : DefOk P w K mg base cl "_law_small" 4 ["_law_script"] F_law_small) (GFrame___init__ : MethOk P w K mg base cl "Frame" "__init__" 3 ["self", "one", "table", "room"] FFrame___init__) (G_law_seen : DefOk P w K mg base cl "_law_seen" 4 ["_law_frame", "_law_state", "_law_bins", "_law_room"] F_law_seen) (G_law_letters : DefOk P w K mg base cl "_law_letters" 1 ["_law_one"] F_law_letters) (G_law_big : DefOk P w K mg base cl "_law_big" 2 ["_law_script", "_law_at"] F_law_big) (G_law_done : DefOk P w K mg base cl "_law_done" 4 ["_law_frame", "_law_state", "_law_bins", "_law_room", "_law_rest"] F_law_done) (G_law_digit : DefOk P w K mg base cl "_law_digit" 1 ["_law_rest", "_law_many"] F_law_digit) : DefOk P w K mg base cl "law" 5 ["_law_script"] Flaw := by
  refine def_ok (k := 4) I claw fun f cdv A outer s H E hr => ?_
  have nd := claw.nd
  have tk : L2N.Takes (cxOf (L2N.CX P w) P w K mg base ["_law_script", "_law_one", "_law_table_here", "_law_room", "_law_bins", "_law_frame", "_law_state", "_law_number", "_law_k", "_law_rest"] "law" (defScope slaw) f cdv A outer s H E) (fun c d _ H => E c d H)   := L2N.takes_of rfl rfl rfl rfl
  have hp : PassesOwn (model P w) (cxOf (L2N.CX P w) P w K mg base ["_law_script", "_law_one", "_law_table_here", "_law_room", "_law_bins", "_law_frame", "_law_state", "_law_number", "_law_k", "_law_rest"] "law" (defScope slaw) f cdv A outer s H E).A (cxOf (L2N.CX P w) P w K mg base ["_law_script", "_law_one", "_law_table_here", "_law_room", "_law_bins", "_law_frame", "_law_state", "_law_number", "_law_k", "_law_rest"] "law" (defScope slaw) f cdv A outer s H E).env (cxOf (L2N.CX P w) P w K mg base ["_law_script", "_law_one", "_law_table_here", "_law_room", "_law_bins", "_law_frame", "_law_state", "_law_number", "_law_k", "_law_rest"] "law" (defScope slaw) f cdv A outer s H E).xe := passes_of rfl
  exact (qb_cons (qs_asg (qe_fn (G_law_small.mono (by decide)) hr (by rfl) tk (qa_cons (qv 0) qa_nil)) (qg_tp rfl (qgs_cons (qg_nm nd rfl (by first | exact Or.inl rfl | exact Or.inr rfl)) (qgs_cons (qg_nm nd rfl (by first | exact Or.inl rfl | exact Or.inr rfl)) (qgs_cons (qg_nm nd rfl (by first | exact Or.inl rfl | exact Or.inr rfl)) qgs_nil))) rfl))
    (qb_cons (qs_set nd rfl (by first | exact Or.inl rfl | exact Or.inr rfl) (qe_ano (qn_dctP rfl (by rfl) T.dict (qe_ix hr (qv 2) qe_int))))
    (qb_cons (qs_set nd rfl (by first | exact Or.inl rfl | exact Or.inr rfl) (qe_make (k := 3) Kk.m_Frame (GFrame___init__.mono (by decide)) (hr.mono (by decide)) (by rfl) tk (qa_cons (qv 1) (qa_cons (qv 2) (qa_cons (qv 3) qa_nil)))))
    (qb_cons (qs_set nd rfl (by first | exact Or.inl rfl | exact Or.inr rfl) (qe_ano (qn_lst (qa_cons (qe_fn (G_law_letters.mono (by decide)) hr (by rfl) tk (qa_cons (qv 1) qa_nil)) (qa_cons (qe_new qn_dct0) (qa_cons (qe_new qn_dct0) qa_nil))))))
    (qb_cons (qs_fgt [7] (qs_for [7] hp rfl (qi_r1 (by rfl) T.range (qe_ix hr (qv 2) qe_int)) (qg_nm nd rfl (by first | exact Or.inl rfl | exact Or.inr rfl))
    (qb_cons (qs_st hr (qe_new (qn_lst qa_nil)) (qe_ix hr (qv 6) qe_int) (qv 7))
    (qb_one (qs_st hr (qe_ano (qn_lst qa_nil)) (qe_ix hr (qv 6) qe_int) (qv 7))))))
    (qb_cons (qs_if (qt_not (qt_val (qe_fn (G_law_seen.mono (by decide)) hr (by rfl) tk (qa_cons (qv 5) (qa_cons (qv 6) (qa_cons (qv 4) (qa_cons (qv 3) qa_nil))))))) (qb_one (qs_ret qe_bl)) qb_nil)
    (qb_cons (qs_fgt [8, 9] (qs_for [8, 9] hp rfl (qi_r1 (by rfl) T.range (qe_max2 rfl (by rfl) T.max (qa_cons qe_int (qa_cons (qe_min2 rfl (by rfl) T.min (qa_cons qe_int (qa_cons (qe_sub (qe_len (by rfl) T.len (qa_cons (qv 0) qa_nil)) qe_int) qa_nil))) qa_nil)))) (qg_nm nd rfl (by first | exact Or.inl rfl | exact Or.inr rfl))
    (qb_cons (qs_set nd rfl (by first | exact Or.inl rfl | exact Or.inr rfl) (qe_new (qn_lst (qa_cons (qe_fn (G_law_big.mono (by decide)) hr (by rfl) tk (qa_cons (qv 0) (qa_cons (qe_add qe_int (qv 8)) qa_nil))) qa_nil))))
    (qb_cons (qs_if (qt_not (qt_val (qe_fn (G_law_done.mono (by decide)) hr (by rfl) tk (qa_cons (qv 5) (qa_cons (qv 6) (qa_cons (qv 4) (qa_cons (qv 3) (qa_cons (qv 9) qa_nil)))))))) (qb_one (qs_ret qe_bl)) qb_nil)
    (qb_one (qs_if (PW.pt (qw_and (qt_gt (qe_fn (G_law_digit.mono (by decide)) hr (by rfl) tk (qa_cons (qv 9) (qa_cons qe_int qa_nil))) qe_int) (qw_and1 (qt_not (qt_val (qe_fn (G_law_seen.mono (by decide)) hr (by rfl) tk (qa_cons (qv 5) (qa_cons (qv 6) (qa_cons (qv 4) (qa_cons (qv 3) qa_nil)))))))))) (qb_one (qs_ret qe_bl)) qb_nil))))))
    (qb_one (qs_ret (qe_fn (G_law_seen.mono (by decide)) hr (by rfl) tk (qa_cons (qv 5) (qa_cons (qv 6) (qa_cons (qv 4) (qa_cons (qv 3) qa_nil))))))))))))))
end
theorem all_ok {l : PySem.W.OpenLaw} {w : World} {K : PySem.W.Frag} {h : Heap} {mg : Str → Option Value} {fa : Addr} (X : K.In h) (G : h.Ns mainGlobals mg) (hfa : mg "law" = some (.ref fa))
    {AFrame : Addr} (og_Frame : PySem.W.nsIn K mainGlobals "Frame" = some (some (.ref AFrame)))
    (op_Frame : PySem.W.plainGet K AFrame Str.empty = true)
    (od_Frame : PySem.W.hasDictIn K AFrame = true)
    (oo_Frame : PySem.W.plainOver K AFrame = true)
    (os_Frame : PySem.W.findIn K (.ref AFrame) "__setattr__" = some (some (.builtin "object.__setattr__")))
    (om_Frame : PySem.W.makesIn K AFrame = true)
    (ok_Frame : PySem.W.keepIn K (.ref AFrame) = true)
    (on_Frame_bins : PySem.W.findIn K (.ref AFrame) "bins" = some none)
    (on_Frame_left : PySem.W.findIn K (.ref AFrame) "left" = some none)
    (on_Frame_lying : PySem.W.findIn K (.ref AFrame) "lying" = some none)
    (on_Frame_many : PySem.W.findIn K (.ref AFrame) "many" = some none)
    (on_Frame_out : PySem.W.findIn K (.ref AFrame) "out" = some none)
    (on_Frame_room : PySem.W.findIn K (.ref AFrame) "room" = some none)
    {f0 : Addr} {od0 an0 : Option Addr} {sl0 : Array (Option Value)} {oc0 kV0 dc0 pm0 cd0 ct0 : Value}
    (a0 : PySem.W.nsIn K mainGlobals "heap" = some (some (.ref f0))) (l0 : K.lookup f0 = some ⟨oc0, od0, .func (PySem.W.fnOf "heap" "heap" (defArgs sheap) (defBody sheap) (defScope sheap) .none kV0 dc0 pm0 an0 cd0 ct0), sl0⟩) (c0 : PySem.W.codeIn K cd0 "heap" = true) (k0 : PySem.W.keepIn K (.ref f0) = true)
    {f1 : Addr} {od1 an1 : Option Addr} {sl1 : Array (Option Value)} {oc1 kV1 dc1 pm1 cd1 ct1 : Value}
    (a1 : PySem.W.nsIn K mainGlobals "letters_in" = some (some (.ref f1))) (l1 : K.lookup f1 = some ⟨oc1, od1, .func (PySem.W.fnOf "letters_in" "letters_in" (defArgs sletters_in) (defBody sletters_in) (defScope sletters_in) .none kV1 dc1 pm1 an1 cd1 ct1), sl1⟩) (c1 : PySem.W.codeIn K cd1 "letters_in" = true) (k1 : PySem.W.keepIn K (.ref f1) = true)
    {f2 : Addr} {od2 an2 : Option Addr} {sl2 : Array (Option Value)} {oc2 kV2 dc2 pm2 cd2 ct2 : Value}
    (a2 : PySem.W.nsIn K mainGlobals "keys_of" = some (some (.ref f2))) (l2 : K.lookup f2 = some ⟨oc2, od2, .func (PySem.W.fnOf "keys_of" "keys_of" (defArgs skeys_of) (defBody skeys_of) (defScope skeys_of) .none kV2 dc2 pm2 an2 cd2 ct2), sl2⟩) (c2 : PySem.W.codeIn K cd2 "keys_of" = true) (k2 : PySem.W.keepIn K (.ref f2) = true)
    {f3 : Addr} {od3 an3 : Option Addr} {sl3 : Array (Option Value)} {oc3 kV3 dc3 pm3 cd3 ct3 : Value}
    (a3 : PySem.W.nsIn K mainGlobals "joined" = some (some (.ref f3))) (l3 : K.lookup f3 = some ⟨oc3, od3, .func (PySem.W.fnOf "joined" "joined" (defArgs sjoined) (defBody sjoined) (defScope sjoined) .none kV3 dc3 pm3 an3 cd3 ct3), sl3⟩) (c3 : PySem.W.codeIn K cd3 "joined" = true) (k3 : PySem.W.keepIn K (.ref f3) = true)
    {f4 : Addr} {od4 an4 : Option Addr} {sl4 : Array (Option Value)} {oc4 kV4 dc4 pm4 cd4 ct4 : Value}
    (a4 : PySem.W.nsIn K mainGlobals "bins_by" = some (some (.ref f4))) (l4 : K.lookup f4 = some ⟨oc4, od4, .func (PySem.W.fnOf "bins_by" "bins_by" (defArgs sbins_by) (defBody sbins_by) (defScope sbins_by) .none kV4 dc4 pm4 an4 cd4 ct4), sl4⟩) (c4 : PySem.W.codeIn K cd4 "bins_by" = true) (k4 : PySem.W.keepIn K (.ref f4) = true)
    {f5 : Addr} {od5 an5 : Option Addr} {sl5 : Array (Option Value)} {oc5 kV5 dc5 pm5 cd5 ct5 : Value}
    (a5 : PySem.W.nsIn K mainGlobals "need_bin" = some (some (.ref f5))) (l5 : K.lookup f5 = some ⟨oc5, od5, .func (PySem.W.fnOf "need_bin" "need_bin" (defArgs sneed_bin) (defBody sneed_bin) (defScope sneed_bin) .none kV5 dc5 pm5 an5 cd5 ct5), sl5⟩) (c5 : PySem.W.codeIn K cd5 "need_bin" = true) (k5 : PySem.W.keepIn K (.ref f5) = true)
    {f6 : Addr} {od6 an6 : Option Addr} {sl6 : Array (Option Value)} {oc6 kV6 dc6 pm6 cd6 ct6 : Value}
    (a6 : PySem.W.findIn K (.ref AFrame) "__init__" = some (some (.ref f6))) (i6 : PySem.W.isFn K (.ref f6) = true) (l6 : K.lookup f6 = some ⟨oc6, od6, .func (PySem.W.fnOf "__init__" "Frame.__init__" (defArgs sFrame___init__) (defBody sFrame___init__) (defScope sFrame___init__) .none kV6 dc6 pm6 an6 cd6 ct6), sl6⟩) (c6 : PySem.W.codeIn K cd6 "Frame.__init__" = true) (k6 : PySem.W.keepIn K (.ref f6) = true)
    {f7 : Addr} {od7 an7 : Option Addr} {sl7 : Array (Option Value)} {oc7 kV7 dc7 pm7 cd7 ct7 : Value}
    (a7 : PySem.W.findIn K (.ref AFrame) "free" = some (some (.ref f7))) (i7 : PySem.W.isFn K (.ref f7) = true) (l7 : K.lookup f7 = some ⟨oc7, od7, .func (PySem.W.fnOf "free" "Frame.free" (defArgs sFrame_free) (defBody sFrame_free) (defScope sFrame_free) .none kV7 dc7 pm7 an7 cd7 ct7), sl7⟩) (c7 : PySem.W.codeIn K cd7 "Frame.free" = true) (k7 : PySem.W.keepIn K (.ref f7) = true)
    {f8 : Addr} {od8 an8 : Option Addr} {sl8 : Array (Option Value)} {oc8 kV8 dc8 pm8 cd8 ct8 : Value}
    (a8 : PySem.W.findIn K (.ref AFrame) "feed" = some (some (.ref f8))) (i8 : PySem.W.isFn K (.ref f8) = true) (l8 : K.lookup f8 = some ⟨oc8, od8, .func (PySem.W.fnOf "feed" "Frame.feed" (defArgs sFrame_feed) (defBody sFrame_feed) (defScope sFrame_feed) .none kV8 dc8 pm8 an8 cd8 ct8), sl8⟩) (c8 : PySem.W.codeIn K cd8 "Frame.feed" = true) (k8 : PySem.W.keepIn K (.ref f8) = true)
    {f9 : Addr} {od9 an9 : Option Addr} {sl9 : Array (Option Value)} {oc9 kV9 dc9 pm9 cd9 ct9 : Value}
    (a9 : PySem.W.findIn K (.ref AFrame) "waits" = some (some (.ref f9))) (i9 : PySem.W.isFn K (.ref f9) = true) (l9 : K.lookup f9 = some ⟨oc9, od9, .func (PySem.W.fnOf "waits" "Frame.waits" (defArgs sFrame_waits) (defBody sFrame_waits) (defScope sFrame_waits) .none kV9 dc9 pm9 an9 cd9 ct9), sl9⟩) (c9 : PySem.W.codeIn K cd9 "Frame.waits" = true) (k9 : PySem.W.keepIn K (.ref f9) = true)
    {f10 : Addr} {od10 an10 : Option Addr} {sl10 : Array (Option Value)} {oc10 kV10 dc10 pm10 cd10 ct10 : Value}
    (a10 : PySem.W.findIn K (.ref AFrame) "take" = some (some (.ref f10))) (i10 : PySem.W.isFn K (.ref f10) = true) (l10 : K.lookup f10 = some ⟨oc10, od10, .func (PySem.W.fnOf "take" "Frame.take" (defArgs sFrame_take) (defBody sFrame_take) (defScope sFrame_take) .none kV10 dc10 pm10 an10 cd10 ct10), sl10⟩) (c10 : PySem.W.codeIn K cd10 "Frame.take" = true) (k10 : PySem.W.keepIn K (.ref f10) = true)
    {f11 : Addr} {od11 an11 : Option Addr} {sl11 : Array (Option Value)} {oc11 kV11 dc11 pm11 cd11 ct11 : Value}
    (a11 : PySem.W.findIn K (.ref AFrame) "rest" = some (some (.ref f11))) (i11 : PySem.W.isFn K (.ref f11) = true) (l11 : K.lookup f11 = some ⟨oc11, od11, .func (PySem.W.fnOf "rest" "Frame.rest" (defArgs sFrame_rest) (defBody sFrame_rest) (defScope sFrame_rest) .none kV11 dc11 pm11 an11 cd11 ct11), sl11⟩) (c11 : PySem.W.codeIn K cd11 "Frame.rest" = true) (k11 : PySem.W.keepIn K (.ref f11) = true)
    {f12 : Addr} {od12 an12 : Option Addr} {sl12 : Array (Option Value)} {oc12 kV12 dc12 pm12 cd12 ct12 : Value}
    (a12 : PySem.W.findIn K (.ref AFrame) "lies" = some (some (.ref f12))) (i12 : PySem.W.isFn K (.ref f12) = true) (l12 : K.lookup f12 = some ⟨oc12, od12, .func (PySem.W.fnOf "lies" "Frame.lies" (defArgs sFrame_lies) (defBody sFrame_lies) (defScope sFrame_lies) .none kV12 dc12 pm12 an12 cd12 ct12), sl12⟩) (c12 : PySem.W.codeIn K cd12 "Frame.lies" = true) (k12 : PySem.W.keepIn K (.ref f12) = true)
    {f13 : Addr} {od13 an13 : Option Addr} {sl13 : Array (Option Value)} {oc13 kV13 dc13 pm13 cd13 ct13 : Value}
    (a13 : PySem.W.findIn K (.ref AFrame) "taken" = some (some (.ref f13))) (i13 : PySem.W.isFn K (.ref f13) = true) (l13 : K.lookup f13 = some ⟨oc13, od13, .func (PySem.W.fnOf "taken" "Frame.taken" (defArgs sFrame_taken) (defBody sFrame_taken) (defScope sFrame_taken) .none kV13 dc13 pm13 an13 cd13 ct13), sl13⟩) (c13 : PySem.W.codeIn K cd13 "Frame.taken" = true) (k13 : PySem.W.keepIn K (.ref f13) = true)
    {f14 : Addr} {od14 an14 : Option Addr} {sl14 : Array (Option Value)} {oc14 kV14 dc14 pm14 cd14 ct14 : Value}
    (a14 : PySem.W.findIn K (.ref AFrame) "comes" = some (some (.ref f14))) (i14 : PySem.W.isFn K (.ref f14) = true) (l14 : K.lookup f14 = some ⟨oc14, od14, .func (PySem.W.fnOf "comes" "Frame.comes" (defArgs sFrame_comes) (defBody sFrame_comes) (defScope sFrame_comes) .none kV14 dc14 pm14 an14 cd14 ct14), sl14⟩) (c14 : PySem.W.codeIn K cd14 "Frame.comes" = true) (k14 : PySem.W.keepIn K (.ref f14) = true)
    {f15 : Addr} {od15 an15 : Option Addr} {sl15 : Array (Option Value)} {oc15 kV15 dc15 pm15 cd15 ct15 : Value}
    (a15 : PySem.W.nsIn K mainGlobals "_law_cell_at" = some (some (.ref f15))) (l15 : K.lookup f15 = some ⟨oc15, od15, .func (PySem.W.fnOf "_law_cell_at" "_law_cell_at" (defArgs s_law_cell_at) (defBody s_law_cell_at) (defScope s_law_cell_at) .none kV15 dc15 pm15 an15 cd15 ct15), sl15⟩) (c15 : PySem.W.codeIn K cd15 "_law_cell_at" = true) (k15 : PySem.W.keepIn K (.ref f15) = true)
    {f16 : Addr} {od16 an16 : Option Addr} {sl16 : Array (Option Value)} {oc16 kV16 dc16 pm16 cd16 ct16 : Value}
    (a16 : PySem.W.nsIn K mainGlobals "_law_big" = some (some (.ref f16))) (l16 : K.lookup f16 = some ⟨oc16, od16, .func (PySem.W.fnOf "_law_big" "_law_big" (defArgs s_law_big) (defBody s_law_big) (defScope s_law_big) .none kV16 dc16 pm16 an16 cd16 ct16), sl16⟩) (c16 : PySem.W.codeIn K cd16 "_law_big" = true) (k16 : PySem.W.keepIn K (.ref f16) = true)
    {f17 : Addr} {od17 an17 : Option Addr} {sl17 : Array (Option Value)} {oc17 kV17 dc17 pm17 cd17 ct17 : Value}
    (a17 : PySem.W.nsIn K mainGlobals "_law_digit" = some (some (.ref f17))) (l17 : K.lookup f17 = some ⟨oc17, od17, .func (PySem.W.fnOf "_law_digit" "_law_digit" (defArgs s_law_digit) (defBody s_law_digit) (defScope s_law_digit) .none kV17 dc17 pm17 an17 cd17 ct17), sl17⟩) (c17 : PySem.W.codeIn K cd17 "_law_digit" = true) (k17 : PySem.W.keepIn K (.ref f17) = true)
    {f18 : Addr} {od18 an18 : Option Addr} {sl18 : Array (Option Value)} {oc18 kV18 dc18 pm18 cd18 ct18 : Value}
    (a18 : PySem.W.nsIn K mainGlobals "_law_whole" = some (some (.ref f18))) (l18 : K.lookup f18 = some ⟨oc18, od18, .func (PySem.W.fnOf "_law_whole" "_law_whole" (defArgs s_law_whole) (defBody s_law_whole) (defScope s_law_whole) .none kV18 dc18 pm18 an18 cd18 ct18), sl18⟩) (c18 : PySem.W.codeIn K cd18 "_law_whole" = true) (k18 : PySem.W.keepIn K (.ref f18) = true)
    {f19 : Addr} {od19 an19 : Option Addr} {sl19 : Array (Option Value)} {oc19 kV19 dc19 pm19 cd19 ct19 : Value}
    (a19 : PySem.W.nsIn K mainGlobals "_law_keys" = some (some (.ref f19))) (l19 : K.lookup f19 = some ⟨oc19, od19, .func (PySem.W.fnOf "_law_keys" "_law_keys" (defArgs s_law_keys) (defBody s_law_keys) (defScope s_law_keys) .none kV19 dc19 pm19 an19 cd19 ct19), sl19⟩) (c19 : PySem.W.codeIn K cd19 "_law_keys" = true) (k19 : PySem.W.keepIn K (.ref f19) = true)
    {f20 : Addr} {od20 an20 : Option Addr} {sl20 : Array (Option Value)} {oc20 kV20 dc20 pm20 cd20 ct20 : Value}
    (a20 : PySem.W.nsIn K mainGlobals "_law_rows" = some (some (.ref f20))) (l20 : K.lookup f20 = some ⟨oc20, od20, .func (PySem.W.fnOf "_law_rows" "_law_rows" (defArgs s_law_rows) (defBody s_law_rows) (defScope s_law_rows) .none kV20 dc20 pm20 an20 cd20 ct20), sl20⟩) (c20 : PySem.W.codeIn K cd20 "_law_rows" = true) (k20 : PySem.W.keepIn K (.ref f20) = true)
    {f21 : Addr} {od21 an21 : Option Addr} {sl21 : Array (Option Value)} {oc21 kV21 dc21 pm21 cd21 ct21 : Value}
    (a21 : PySem.W.nsIn K mainGlobals "_law_heap" = some (some (.ref f21))) (l21 : K.lookup f21 = some ⟨oc21, od21, .func (PySem.W.fnOf "_law_heap" "_law_heap" (defArgs s_law_heap) (defBody s_law_heap) (defScope s_law_heap) .none kV21 dc21 pm21 an21 cd21 ct21), sl21⟩) (c21 : PySem.W.codeIn K cd21 "_law_heap" = true) (k21 : PySem.W.keepIn K (.ref f21) = true)
    {f22 : Addr} {od22 an22 : Option Addr} {sl22 : Array (Option Value)} {oc22 kV22 dc22 pm22 cd22 ct22 : Value}
    (a22 : PySem.W.nsIn K mainGlobals "_law_table" = some (some (.ref f22))) (l22 : K.lookup f22 = some ⟨oc22, od22, .func (PySem.W.fnOf "_law_table" "_law_table" (defArgs s_law_table) (defBody s_law_table) (defScope s_law_table) .none kV22 dc22 pm22 an22 cd22 ct22), sl22⟩) (c22 : PySem.W.codeIn K cd22 "_law_table" = true) (k22 : PySem.W.keepIn K (.ref f22) = true)
    {f23 : Addr} {od23 an23 : Option Addr} {sl23 : Array (Option Value)} {oc23 kV23 dc23 pm23 cd23 ct23 : Value}
    (a23 : PySem.W.nsIn K mainGlobals "_law_letters" = some (some (.ref f23))) (l23 : K.lookup f23 = some ⟨oc23, od23, .func (PySem.W.fnOf "_law_letters" "_law_letters" (defArgs s_law_letters) (defBody s_law_letters) (defScope s_law_letters) .none kV23 dc23 pm23 an23 cd23 ct23), sl23⟩) (c23 : PySem.W.codeIn K cd23 "_law_letters" = true) (k23 : PySem.W.keepIn K (.ref f23) = true)
    {f24 : Addr} {od24 an24 : Option Addr} {sl24 : Array (Option Value)} {oc24 kV24 dc24 pm24 cd24 ct24 : Value}
    (a24 : PySem.W.nsIn K mainGlobals "_law_of_letters" = some (some (.ref f24))) (l24 : K.lookup f24 = some ⟨oc24, od24, .func (PySem.W.fnOf "_law_of_letters" "_law_of_letters" (defArgs s_law_of_letters) (defBody s_law_of_letters) (defScope s_law_of_letters) .none kV24 dc24 pm24 an24 cd24 ct24), sl24⟩) (c24 : PySem.W.codeIn K cd24 "_law_of_letters" = true) (k24 : PySem.W.keepIn K (.ref f24) = true)
    {f25 : Addr} {od25 an25 : Option Addr} {sl25 : Array (Option Value)} {oc25 kV25 dc25 pm25 cd25 ct25 : Value}
    (a25 : PySem.W.nsIn K mainGlobals "_law_small" = some (some (.ref f25))) (l25 : K.lookup f25 = some ⟨oc25, od25, .func (PySem.W.fnOf "_law_small" "_law_small" (defArgs s_law_small) (defBody s_law_small) (defScope s_law_small) .none kV25 dc25 pm25 an25 cd25 ct25), sl25⟩) (c25 : PySem.W.codeIn K cd25 "_law_small" = true) (k25 : PySem.W.keepIn K (.ref f25) = true)
    {f26 : Addr} {od26 an26 : Option Addr} {sl26 : Array (Option Value)} {oc26 kV26 dc26 pm26 cd26 ct26 : Value}
    (a26 : PySem.W.nsIn K mainGlobals "_law_fed" = some (some (.ref f26))) (l26 : K.lookup f26 = some ⟨oc26, od26, .func (PySem.W.fnOf "_law_fed" "_law_fed" (defArgs s_law_fed) (defBody s_law_fed) (defScope s_law_fed) .none kV26 dc26 pm26 an26 cd26 ct26), sl26⟩) (c26 : PySem.W.codeIn K cd26 "_law_fed" = true) (k26 : PySem.W.keepIn K (.ref f26) = true)
    {f27 : Addr} {od27 an27 : Option Addr} {sl27 : Array (Option Value)} {oc27 kV27 dc27 pm27 cd27 ct27 : Value}
    (a27 : PySem.W.nsIn K mainGlobals "_law_waits" = some (some (.ref f27))) (l27 : K.lookup f27 = some ⟨oc27, od27, .func (PySem.W.fnOf "_law_waits" "_law_waits" (defArgs s_law_waits) (defBody s_law_waits) (defScope s_law_waits) .none kV27 dc27 pm27 an27 cd27 ct27), sl27⟩) (c27 : PySem.W.codeIn K cd27 "_law_waits" = true) (k27 : PySem.W.keepIn K (.ref f27) = true)
    {f28 : Addr} {od28 an28 : Option Addr} {sl28 : Array (Option Value)} {oc28 kV28 dc28 pm28 cd28 ct28 : Value}
    (a28 : PySem.W.nsIn K mainGlobals "_law_seen" = some (some (.ref f28))) (l28 : K.lookup f28 = some ⟨oc28, od28, .func (PySem.W.fnOf "_law_seen" "_law_seen" (defArgs s_law_seen) (defBody s_law_seen) (defScope s_law_seen) .none kV28 dc28 pm28 an28 cd28 ct28), sl28⟩) (c28 : PySem.W.codeIn K cd28 "_law_seen" = true) (k28 : PySem.W.keepIn K (.ref f28) = true)
    {f29 : Addr} {od29 an29 : Option Addr} {sl29 : Array (Option Value)} {oc29 kV29 dc29 pm29 cd29 ct29 : Value}
    (a29 : PySem.W.nsIn K mainGlobals "_law_done" = some (some (.ref f29))) (l29 : K.lookup f29 = some ⟨oc29, od29, .func (PySem.W.fnOf "_law_done" "_law_done" (defArgs s_law_done) (defBody s_law_done) (defScope s_law_done) .none kV29 dc29 pm29 an29 cd29 ct29), sl29⟩) (c29 : PySem.W.codeIn K cd29 "_law_done" = true) (k29 : PySem.W.keepIn K (.ref f29) = true)
    {f30 : Addr} {od30 an30 : Option Addr} {sl30 : Array (Option Value)} {oc30 kV30 dc30 pm30 cd30 ct30 : Value}
    (a30 : PySem.W.nsIn K mainGlobals "law" = some (some (.ref f30))) (l30 : K.lookup f30 = some ⟨oc30, od30, .func (PySem.W.fnOf "law" "law" (defArgs slaw) (defBody slaw) (defScope slaw) .none kV30 dc30 pm30 an30 cd30 ct30), sl30⟩) (c30 : PySem.W.codeIn K cd30 "law" = true) (k30 : PySem.W.keepIn K (.ref f30) = true)
    (z_dict : PySem.W.nsIn K mainGlobals "dict" = some none)
    (z_int : PySem.W.nsIn K mainGlobals "int" = some none)
    (z_len : PySem.W.nsIn K mainGlobals "len" = some none)
    (z_list : PySem.W.nsIn K mainGlobals "list" = some none)
    (z_max : PySem.W.nsIn K mainGlobals "max" = some none)
    (z_min : PySem.W.nsIn K mainGlobals "min" = some none)
    (z_range : PySem.W.nsIn K mainGlobals "range" = some none)
    (z_set : PySem.W.nsIn K mainGlobals "set" = some none)
    (z_sorted : PySem.W.nsIn K mainGlobals "sorted" = some none)
    (z_sum : PySem.W.nsIn K mainGlobals "sum" = some none)
    (z_tuple : PySem.W.nsIn K mainGlobals "tuple" = some none)
    {ANoBin : Addr} (yg_NoBin : PySem.W.nsIn K mainGlobals "NoBin" = some (some (.ref ANoBin)))
    {ANotDone : Addr} (yg_NotDone : PySem.W.nsIn K mainGlobals "NotDone" = some (some (.ref ANotDone)))
    (ye_NoBin : PySem.W.excIn K ANoBin [.type "ValueError", .type "Exception", .type "BaseException", .type "object"] "ValueError.__new__" = true)
    (yk_NoBin : PySem.W.keepIn K (.ref ANoBin) = true)
    (yb_NoBin : PySem.W.subIn K (.ref ANoBin) (.type "BaseException") = some true)
    (ye_NotDone : PySem.W.excIn K ANotDone [.type "ValueError", .type "Exception", .type "BaseException", .type "object"] "ValueError.__new__" = true)
    (yk_NotDone : PySem.W.keepIn K (.ref ANotDone) = true)
    (yb_NotDone : PySem.W.subIn K (.ref ANotDone) (.type "BaseException") = some true)
    (ys_NotDone_NotDone : PySem.W.subIn K (.ref ANotDone) (.ref ANotDone) = some true)
    (yt_NoBin : PySem.W.typeIn K (.ref ANoBin) = some (.type "type"))
    (yd_NoBin : PySem.W.hasDictIn K ANoBin = true)
    (yt_NotDone : PySem.W.typeIn K (.ref ANotDone) = some (.type "type"))
    (yd_NotDone : PySem.W.hasDictIn K ANotDone = true)
    : ∃ fd : FuncData, (∀ (s : Shared) (u : Value), BindsTo s fd ⟨[u], []⟩ [("_law_script", u)]) ∧ ∀ base : Heap, K.In base → base.Ns mainGlobals mg → FnOk l.prog w K mg base (L2N.CX l.prog w) 5 fa fd ["_law_script"] (SpD K (clK K) 1 Flaw) := by
  have T : Bt K mg := ⟨PySem.W.mg_none_of X G z_dict, PySem.W.mg_none_of X G z_int, PySem.W.mg_none_of X G z_len, PySem.W.mg_none_of X G z_list, PySem.W.mg_none_of X G z_max, PySem.W.mg_none_of X G z_min, PySem.W.mg_none_of X G z_range, PySem.W.mg_none_of X G z_set, PySem.W.mg_none_of X G z_sorted, PySem.W.mg_none_of X G z_sum, PySem.W.mg_none_of X G z_tuple⟩
  have Ee : Er K mg (clK K) := ⟨clsE_mk X G yg_NoBin ye_NoBin yk_NoBin yb_NoBin yt_NoBin yd_NoBin, clsE_mk X G yg_NotDone ye_NotDone yk_NotDone yb_NotDone yt_NotDone yd_NotDone, by rw [clK_of yg_NoBin]; exact PySem.W.mg_of X G yg_NoBin, by rw [clK_of yg_NotDone]; exact PySem.W.mg_of X G yg_NotDone, by rw [clK_of yg_NotDone]; exact ys_NotDone_NotDone⟩
  have Kk : Kl K mg (clK K) := ⟨by rw [clK_of og_Frame]; exact ⟨op_Frame, od_Frame, oo_Frame, os_Frame⟩, ⟨by rw [clK_of og_Frame]; exact PySem.W.mg_of X G og_Frame, by rw [clK_of og_Frame]; exact om_Frame, by rw [clK_of og_Frame]; exact ok_Frame⟩, by rw [clK_of og_Frame]; exact on_Frame_bins, by rw [clK_of og_Frame]; exact on_Frame_left, by rw [clK_of og_Frame]; exact on_Frame_lying, by rw [clK_of og_Frame]; exact on_Frame_many, by rw [clK_of og_Frame]; exact on_Frame_out, by rw [clK_of og_Frame]; exact on_Frame_room⟩
  have I0 : DefIn K mg "heap" sheap ["rows"] := defIn_mk X G a0 l0 c0 k0 fun _ _ _ _ _ _ => us1 (fun _ => rfl)
  have I1 : DefIn K mg "letters_in" sletters_in ["one"] := defIn_mk X G a1 l1 c1 k1 fun _ _ _ _ _ _ => us1 (fun _ => rfl)
  have I2 : DefIn K mg "keys_of" skeys_of ["one"] := defIn_mk X G a2 l2 c2 k2 fun _ _ _ _ _ _ => us1 (fun _ => rfl)
  have I3 : DefIn K mg "joined" sjoined ["one", "other"] := defIn_mk X G a3 l3 c3 k3 fun _ _ _ _ _ _ => us2 (fun _ _ => rfl)
  have I4 : DefIn K mg "bins_by" sbins_by ["one", "table"] := defIn_mk X G a4 l4 c4 k4 fun _ _ _ _ _ _ => us2 (fun _ _ => rfl)
  have I5 : DefIn K mg "need_bin" sneed_bin ["number", "many"] := defIn_mk X G a5 l5 c5 k5 fun _ _ _ _ _ _ => us2 (fun _ _ => rfl)
  have J6 := fun_mk (st := sFrame___init__) l6 c6 k6
  have I6 : MethIn K (clK K) "Frame" "__init__" "Frame.__init__" sFrame___init__ ["self", "one", "table", "room"] := ⟨f6, _, J6, by rw [clK_of og_Frame]; exact ⟨a6, i6, k6⟩, us4 (fun _ _ _ _ => rfl)⟩
  have J7 := fun_mk (st := sFrame_free) l7 c7 k7
  have I7 : MethIn K (clK K) "Frame" "free" "Frame.free" sFrame_free ["self", "number"] := ⟨f7, _, J7, by rw [clK_of og_Frame]; exact ⟨a7, i7, k7⟩, us2 (fun _ _ => rfl)⟩
  have J8 := fun_mk (st := sFrame_feed) l8 c8 k8
  have I8 : MethIn K (clK K) "Frame" "feed" "Frame.feed" sFrame_feed ["self", "letters"] := ⟨f8, _, J8, by rw [clK_of og_Frame]; exact ⟨a8, i8, k8⟩, us2 (fun _ _ => rfl)⟩
  have J9 := fun_mk (st := sFrame_waits) l9 c9 k9
  have I9 : MethIn K (clK K) "Frame" "waits" "Frame.waits" sFrame_waits ["self"] := ⟨f9, _, J9, by rw [clK_of og_Frame]; exact ⟨a9, i9, k9⟩, us1 (fun _ => rfl)⟩
  have J10 := fun_mk (st := sFrame_take) l10 c10 k10
  have I10 : MethIn K (clK K) "Frame" "take" "Frame.take" sFrame_take ["self", "number"] := ⟨f10, _, J10, by rw [clK_of og_Frame]; exact ⟨a10, i10, k10⟩, us2 (fun _ _ => rfl)⟩
  have J11 := fun_mk (st := sFrame_rest) l11 c11 k11
  have I11 : MethIn K (clK K) "Frame" "rest" "Frame.rest" sFrame_rest ["self"] := ⟨f11, _, J11, by rw [clK_of og_Frame]; exact ⟨a11, i11, k11⟩, us1 (fun _ => rfl)⟩
  have J12 := fun_mk (st := sFrame_lies) l12 c12 k12
  have I12 : MethIn K (clK K) "Frame" "lies" "Frame.lies" sFrame_lies ["self", "number"] := ⟨f12, _, J12, by rw [clK_of og_Frame]; exact ⟨a12, i12, k12⟩, us2 (fun _ _ => rfl)⟩
  have J13 := fun_mk (st := sFrame_taken) l13 c13 k13
  have I13 : MethIn K (clK K) "Frame" "taken" "Frame.taken" sFrame_taken ["self", "number"] := ⟨f13, _, J13, by rw [clK_of og_Frame]; exact ⟨a13, i13, k13⟩, us2 (fun _ _ => rfl)⟩
  have J14 := fun_mk (st := sFrame_comes) l14 c14 k14
  have I14 : MethIn K (clK K) "Frame" "comes" "Frame.comes" sFrame_comes ["self"] := ⟨f14, _, J14, by rw [clK_of og_Frame]; exact ⟨a14, i14, k14⟩, us1 (fun _ => rfl)⟩
  have I15 : DefIn K mg "_law_cell_at" s_law_cell_at ["_law_script", "_law_k"] := defIn_mk X G a15 l15 c15 k15 fun _ _ _ _ _ _ => us2 (fun _ _ => rfl)
  have I16 : DefIn K mg "_law_big" s_law_big ["_law_script", "_law_at"] := defIn_mk X G a16 l16 c16 k16 fun _ _ _ _ _ _ => us2 (fun _ _ => rfl)
  have I17 : DefIn K mg "_law_digit" s_law_digit ["_law_rest", "_law_many"] := defIn_mk X G a17 l17 c17 k17 fun _ _ _ _ _ _ => us2 (fun _ _ => rfl)
  have I18 : DefIn K mg "_law_whole" s_law_whole ["_law_rest"] := defIn_mk X G a18 l18 c18 k18 fun _ _ _ _ _ _ => us1 (fun _ => rfl)
  have I19 : DefIn K mg "_law_keys" s_law_keys ["_law_rest", "_law_many"] := defIn_mk X G a19 l19 c19 k19 fun _ _ _ _ _ _ => us2 (fun _ _ => rfl)
  have I20 : DefIn K mg "_law_rows" s_law_rows ["_law_rest", "_law_keys_here", "_law_many", "_law_far"] := defIn_mk X G a20 l20 c20 k20 fun _ _ _ _ _ _ => us4 (fun _ _ _ _ => rfl)
  have I21 : DefIn K mg "_law_heap" s_law_heap ["_law_rows_here"] := defIn_mk X G a21 l21 c21 k21 fun _ _ _ _ _ _ => us1 (fun _ => rfl)
  have I22 : DefIn K mg "_law_table" s_law_table ["_law_rest", "_law_keys_here", "_law_far"] := defIn_mk X G a22 l22 c22 k22 fun _ _ _ _ _ _ => us3 (fun _ _ _ => rfl)
  have I23 : DefIn K mg "_law_letters" s_law_letters ["_law_one"] := defIn_mk X G a23 l23 c23 k23 fun _ _ _ _ _ _ => us1 (fun _ => rfl)
  have I24 : DefIn K mg "_law_of_letters" s_law_of_letters ["_law_letters_here"] := defIn_mk X G a24 l24 c24 k24 fun _ _ _ _ _ _ => us1 (fun _ => rfl)
  have I25 : DefIn K mg "_law_small" s_law_small ["_law_script"] := defIn_mk X G a25 l25 c25 k25 fun _ _ _ _ _ _ => us1 (fun _ => rfl)
  have I26 : DefIn K mg "_law_fed" s_law_fed ["_law_state", "_law_bins", "_law_room", "_law_letters_here"] := defIn_mk X G a26 l26 c26 k26 fun _ _ _ _ _ _ => us4 (fun _ _ _ _ => rfl)
  have I27 : DefIn K mg "_law_waits" s_law_waits ["_law_state", "_law_bins", "_law_room"] := defIn_mk X G a27 l27 c27 k27 fun _ _ _ _ _ _ => us3 (fun _ _ _ => rfl)
  have I28 : DefIn K mg "_law_seen" s_law_seen ["_law_frame", "_law_state", "_law_bins", "_law_room"] := defIn_mk X G a28 l28 c28 k28 fun _ _ _ _ _ _ => us4 (fun _ _ _ _ => rfl)
  have I29 : DefIn K mg "_law_done" s_law_done ["_law_frame", "_law_state", "_law_bins", "_law_room", "_law_rest"] := defIn_mk X G a29 l29 c29 k29 fun _ _ _ _ _ _ => us5 (fun _ _ _ _ _ => rfl)
  have I30 : DefIn K mg "law" slaw ["_law_script"] := defIn_mk X G a30 l30 c30 k30 fun _ _ _ _ _ _ => us1 (fun _ => rfl)
  obtain ⟨fd, hb, hF⟩ := law_fn (P := l.prog) (w := w) (cl := (clK K)) (k := 5) (F := Flaw) I30 hfa
  refine ⟨fd, fun s u => .of_eq (hb [u] rfl), fun base _ _ => hF base ?_⟩
  have Gheap : DefOk l.prog w K mg base (clK K) "heap" 1 ["rows"] Fheap := kheap T Ee Kk I0 
  have Gletters_in : DefOk l.prog w K mg base (clK K) "letters_in" 1 ["one"] Fletters_in := kletters_in T Ee Kk I1 
  have Gkeys_of : DefOk l.prog w K mg base (clK K) "keys_of" 1 ["one"] Fkeys_of := kkeys_of T Ee Kk I2 
  have Gjoined : DefOk l.prog w K mg base (clK K) "joined" 2 ["one", "other"] Fjoined := kjoined T Ee Kk I3 Gheap
  have Gbins_by : DefOk l.prog w K mg base (clK K) "bins_by" 2 ["one", "table"] Fbins_by := kbins_by T Ee Kk I4 Gkeys_of
  have Gneed_bin : DefOk l.prog w K mg base (clK K) "need_bin" 1 ["number", "many"] Fneed_bin := kneed_bin T Ee Kk I5 
  have GFrame___init__ : MethOk l.prog w K mg base (clK K) "Frame" "__init__" 3 ["self", "one", "table", "room"] FFrame___init__ := kFrame___init__ T Ee Kk I6 Gbins_by
  have GFrame_free : MethOk l.prog w K mg base (clK K) "Frame" "free" 2 ["self", "number"] FFrame_free := kFrame_free T Ee Kk I7 Gletters_in
  have GFrame_feed : MethOk l.prog w K mg base (clK K) "Frame" "feed" 3 ["self", "letters"] FFrame_feed := kFrame_feed T Ee Kk I8 Gjoined Gheap GFrame_free
  have GFrame_waits : MethOk l.prog w K mg base (clK K) "Frame" "waits" 3 ["self"] FFrame_waits := kFrame_waits T Ee Kk I9 GFrame_free
  have GFrame_take : MethOk l.prog w K mg base (clK K) "Frame" "take" 3 ["self", "number"] FFrame_take := kFrame_take T Ee Kk I10 Gneed_bin Gjoined
  have GFrame_rest : MethOk l.prog w K mg base (clK K) "Frame" "rest" 1 ["self"] FFrame_rest := kFrame_rest T Ee Kk I11 
  have GFrame_lies : MethOk l.prog w K mg base (clK K) "Frame" "lies" 2 ["self", "number"] FFrame_lies := kFrame_lies T Ee Kk I12 Gneed_bin
  have GFrame_taken : MethOk l.prog w K mg base (clK K) "Frame" "taken" 2 ["self", "number"] FFrame_taken := kFrame_taken T Ee Kk I13 Gneed_bin
  have GFrame_comes : MethOk l.prog w K mg base (clK K) "Frame" "comes" 3 ["self"] FFrame_comes := kFrame_comes T Ee Kk I14 Gjoined
  have G_law_cell_at : DefOk l.prog w K mg base (clK K) "_law_cell_at" 1 ["_law_script", "_law_k"] F_law_cell_at := k_law_cell_at T Ee Kk I15 
  have G_law_big : DefOk l.prog w K mg base (clK K) "_law_big" 2 ["_law_script", "_law_at"] F_law_big := k_law_big T Ee Kk I16 G_law_cell_at
  have G_law_digit : DefOk l.prog w K mg base (clK K) "_law_digit" 1 ["_law_rest", "_law_many"] F_law_digit := k_law_digit T Ee Kk I17 
  have G_law_whole : DefOk l.prog w K mg base (clK K) "_law_whole" 2 ["_law_rest"] F_law_whole := k_law_whole T Ee Kk I18 G_law_digit
  have G_law_keys : DefOk l.prog w K mg base (clK K) "_law_keys" 2 ["_law_rest", "_law_many"] F_law_keys := k_law_keys T Ee Kk I19 G_law_digit
  have G_law_rows : DefOk l.prog w K mg base (clK K) "_law_rows" 3 ["_law_rest", "_law_keys_here", "_law_many", "_law_far"] F_law_rows := k_law_rows T Ee Kk I20 G_law_digit G_law_whole
  have G_law_heap : DefOk l.prog w K mg base (clK K) "_law_heap" 1 ["_law_rows_here"] F_law_heap := k_law_heap T Ee Kk I21 
  have G_law_table : DefOk l.prog w K mg base (clK K) "_law_table" 2 ["_law_rest", "_law_keys_here", "_law_far"] F_law_table := k_law_table T Ee Kk I22 G_law_digit
  have G_law_letters : DefOk l.prog w K mg base (clK K) "_law_letters" 1 ["_law_one"] F_law_letters := k_law_letters T Ee Kk I23 
  have G_law_of_letters : DefOk l.prog w K mg base (clK K) "_law_of_letters" 2 ["_law_letters_here"] F_law_of_letters := k_law_of_letters T Ee Kk I24 G_law_heap
  have G_law_small : DefOk l.prog w K mg base (clK K) "_law_small" 4 ["_law_script"] F_law_small := k_law_small T Ee Kk I25 G_law_keys G_law_heap G_law_table G_law_big G_law_rows G_law_digit
  have G_law_fed : DefOk l.prog w K mg base (clK K) "_law_fed" 1 ["_law_state", "_law_bins", "_law_room", "_law_letters_here"] F_law_fed := k_law_fed T Ee Kk I26 
  have G_law_waits : DefOk l.prog w K mg base (clK K) "_law_waits" 1 ["_law_state", "_law_bins", "_law_room"] F_law_waits := k_law_waits T Ee Kk I27 
  have G_law_seen : DefOk l.prog w K mg base (clK K) "_law_seen" 4 ["_law_frame", "_law_state", "_law_bins", "_law_room"] F_law_seen := k_law_seen T Ee Kk I28 GFrame_comes GFrame_waits G_law_waits GFrame_rest G_law_of_letters GFrame_lies GFrame_taken
  have G_law_done : DefOk l.prog w K mg base (clK K) "_law_done" 4 ["_law_frame", "_law_state", "_law_bins", "_law_room", "_law_rest"] F_law_done := k_law_done T Ee Kk I29 G_law_waits G_law_of_letters G_law_digit GFrame_take GFrame_feed G_law_fed
  exact klaw T Ee Kk I30 G_law_small GFrame___init__ G_law_seen G_law_letters G_law_big G_law_done G_law_digit
end Lw
set_option Elab.async false
set_option linter.all false
set_option maxRecDepth 100000
namespace Lw
open PySem PySem.Spec PyProof.Rows L2 Pu
theorem ixN_m1 {n : Nat} (h : 0 < n) : ixN n (-1) = some (n - 1) := by
  unfold ixN
  rw [if_neg (by decide), if_pos (by omega)]
  congr 1
  omega
theorem set_end {α : Type} {f : List α} {l a : α} (h : f.getLast? = some l) : f.set (f.length - 1) a = f.dropLast ++ [a] := by
  rcases List.eq_nil_or_concat f with e | ⟨g, y, e⟩
  · subst e; cases h
  · subst e
    simp [List.concat_eq_append]
noncomputable def getZ (kvs : List (Int × Int)) (k : Int) : Option Int := (kvs.find? fun p => decide (p.1 = k)).map (·.2)
noncomputable def putZ (kvs : List (Int × Int)) (k v : Int) : List (Int × Int) := if (kvs.any fun p => decide (p.1 = k)) = true then kvs.map fun p => if p.1 = k then (p.1, v) else p else kvs ++ [(k, v)]
noncomputable def dz (kvs : List (Int × Int)) : List (Key × D) := kvs.map fun p => (Sum.inl p.1, D.int p.2)
theorem dz_get (kvs : List (Int × Int)) (k : Int) : getK (dz kvs) (.inl k) = (getZ kvs k).map D.int := by
  unfold getK dz getZ
  induction kvs with
  | nil => rfl
  | cons p ps ih =>
    simp only [List.map_cons, List.find?_cons]
    by_cases h : p.1 = k
    · simp [h]
    · simp only [h, decide_false]
      simpa [h] using ih
theorem dz_any (kvs : List (Int × Int)) (k : Int) : ((dz kvs).any fun kv => decide (kv.1 = Sum.inl k)) = kvs.any fun p => decide (p.1 = k) := by
  unfold dz
  rw [List.any_map]
  congr 1
  funext p
  simp
theorem dz_put (kvs : List (Int × Int)) (k v : Int) : putD (dz kvs) (.inl k) (.int v) = dz (putZ kvs k v) := by
  unfold putD putZ
  rw [dz_any]
  split
  · unfold dz
    rw [List.map_map, List.map_map]
    refine List.map_congr_left fun p _ => ?_
    by_cases h : p.1 = k
    · simp [h]
    · simp [h]
  · simp [dz]
theorem putZ_len (kvs : List (Int × Int)) (k v : Int) : (putZ kvs k v).length ≤ kvs.length + 1 := by
  unfold putZ
  split <;> simp
theorem putZ_keys (kvs : List (Int × Int)) (k v : Int) : (putZ kvs k v).map (·.1) = if k ∈ kvs.map (·.1) then kvs.map (·.1) else kvs.map (·.1) ++ [k] := by
  have h : (kvs.any fun p => decide (p.1 = k)) = true ↔ k ∈ kvs.map (·.1) := by
    simp [List.any_eq_true, List.mem_map]
  unfold putZ
  by_cases hm : k ∈ kvs.map (·.1)
  · rw [if_pos (h.mpr hm), if_pos hm, List.map_map]
    refine List.map_congr_left fun p _ => ?_
    by_cases hp : p.1 = k
    · simp [hp]
    · simp [hp]
  · rw [if_neg (fun x => hm (h.mp x)), if_neg hm, List.map_append]
    rfl
theorem mem_putZ {kvs : List (Int × Int)} {k v j : Int} : j ∈ (putZ kvs k v).map (·.1) ↔ j = k ∨ j ∈ kvs.map (·.1) := by
  rw [putZ_keys]
  split
  · rename_i h
    constructor
    · exact .inr
    · rintro (rfl | h')
      · exact h
      · exact h'
  · rw [List.mem_append, List.mem_singleton]
    exact or_comm
theorem getZ_none {kvs : List (Int × Int)} {k : Int} : getZ kvs k = none ↔ k ∉ kvs.map (·.1) := by
  unfold getZ
  rw [Option.map_eq_none_iff, List.find?_eq_none]
  constructor
  · intro h hm
    obtain ⟨p, hp, e⟩ := List.mem_map.mp hm
    exact h p hp (by simpa using e)
  · intro h p hp e
    exact h (List.mem_map.mpr ⟨p, hp, by simpa using e⟩)
theorem getZ_some_iff {kvs : List (Int × Int)} {k : Int} : (getZ kvs k).isSome = true ↔ k ∈ kvs.map (·.1) := by
  have := getZ_none (kvs := kvs) (k := k)
  cases h : getZ kvs k with
  | none => simp [this.mp h]
  | some v =>
    rw [h] at this
    simp only [Option.isSome_some, true_iff]
    exact Classical.not_not.mp fun x => by simpa using this.mpr x
theorem getZ_put (kvs : List (Int × Int)) (k v j : Int) : getZ (putZ kvs k v) j = if j = k then some v else getZ kvs j := by
  induction kvs with
  | nil =>
    by_cases h : j = k
    · subst h; simp [putZ, getZ]
    · simp [putZ, getZ, h, Ne.symm h]
  | cons p ps ih =>
    by_cases hp : p.1 = k
    · have e : putZ (p :: ps) k v = (p.1, v) :: ps.map (fun q => if q.1 = k then (q.1, v) else q) := by
        simp [putZ, hp]
      rw [e]
      by_cases h : j = k
      · subst h; simp [getZ, hp]
      · have : ¬ p.1 = j := fun x => h (by rw [← x, hp])
        simp only [h, if_false, getZ, List.find?_cons, this, decide_false]
        congr 1
        clear ih e
        induction ps with
        | nil => rfl
        | cons q qs ih2 =>
          rw [List.map_cons, List.find?_cons, List.find?_cons]
          by_cases hq : q.1 = k
          · have : ¬ q.1 = j := fun x => h (by rw [← x, hq])
            simp only [hq, if_true, show ¬ k = j from fun x => h x.symm, decide_false, ih2]
          · simp only [hq, if_false]
            by_cases hj : q.1 = j
            · simp only [hj, decide_true]
            · simp only [hj, decide_false, ih2]
    · have e : putZ (p :: ps) k v = p :: putZ ps k v := by
        simp only [putZ, List.any_cons, hp, decide_false, Bool.false_or, List.map_cons, if_false, List.cons_append]
        split <;> rfl
      rw [e]
      by_cases hj : p.1 = j
      · subst hj
        simp [getZ, hp]
      · have : getZ (p :: putZ ps k v) j = getZ (putZ ps k v) j := by simp [getZ, hj]
        rw [this, ih]
        have : getZ (p :: ps) j = getZ ps j := by simp [getZ, hj]
        rw [this]
theorem ixD_dct {S : Sto} {o : D} {d : List (Int × Int)} {k v : Int} (hat : dcOf S o = some (dz d)) (hv : getZ d k = some v) : ixD o (.int k) S = .ok (.int v) S := by
  simp only [ixD, hat, Pu.keyOf, dz_get, hv, Option.map_some, opt_some]
theorem dcR {S : Sto} {n : Nat} {d : List (Key × D)} (hat : S[n]? = some (.dct d)) : dcOf S (.ref n) = some d := by simp only [dcOf, hat]
theorem inD_dct {S : Sto} {o : D} {d : List (Int × Int)} {k : Int} {neg : Bool} (hat : dcOf S o = some (dz d)) : inD neg (.int k) o S = .ok (.bl (if neg = true then !(getZ d k).isSome else (getZ d k).isSome)) S := by
  have e : (getK (dz d) (.inl k)).isSome = (getZ d k).isSome := by
    rw [dz_get]
    cases getZ d k <;> rfl
  simp only [inD, hat, Pu.keyOf, e]
noncomputable def gt {β : Type} (kvs : List (Int × β)) (k : Int) : Option β := (kvs.find? fun p => decide (p.1 = k)).map (·.2)
noncomputable def pt {β : Type} (kvs : List (Int × β)) (k : Int) (v : β) : List (Int × β) := if (kvs.any fun p => decide (p.1 = k)) = true then kvs.map fun p => if p.1 = k then (p.1, v) else p else kvs ++ [(k, v)]
noncomputable def dgz {β : Type} (f : β → D) (kvs : List (Int × β)) : List (Key × D) := kvs.map fun p => (Sum.inl p.1, f p.2)
section
variable {β : Type} {f : β → D}
theorem dgz_get (kvs : List (Int × β)) (k : Int) : getK (dgz f kvs) (.inl k) = (gt kvs k).map f := by
  unfold getK dgz gt
  induction kvs with
  | nil => rfl
  | cons p ps ih =>
    simp only [List.map_cons, List.find?_cons]
    by_cases h : p.1 = k
    · simp [h]
    · simp only [h, decide_false]
      simpa [h] using ih
theorem dgz_any (kvs : List (Int × β)) (k : Int) : ((dgz f kvs).any fun kv => decide (kv.1 = Sum.inl k)) = kvs.any fun p => decide (p.1 = k) := by
  unfold dgz
  rw [List.any_map]
  congr 1
  funext p
  simp
theorem dgz_put (kvs : List (Int × β)) (k : Int) (v : β) : putD (dgz f kvs) (.inl k) (f v) = dgz f (pt kvs k v) := by
  unfold putD pt
  rw [dgz_any]
  split
  · unfold dgz
    rw [List.map_map, List.map_map]
    refine List.map_congr_left fun p _ => ?_
    by_cases h : p.1 = k
    · simp [h]
    · simp [h]
  · simp [dgz]
theorem dgz_len (kvs : List (Int × β)) : (dgz f kvs).length = kvs.length := by simp [dgz]
theorem pt_len (kvs : List (Int × β)) (k : Int) (v : β) : (pt kvs k v).length ≤ kvs.length + 1 := by
  unfold pt
  split <;> simp
theorem pt_keys (kvs : List (Int × β)) (k : Int) (v : β) : (pt kvs k v).map (·.1) = if k ∈ kvs.map (·.1) then kvs.map (·.1) else kvs.map (·.1) ++ [k] := by
  have h : (kvs.any fun p => decide (p.1 = k)) = true ↔ k ∈ kvs.map (·.1) := by
    simp [List.any_eq_true, List.mem_map]
  unfold pt
  by_cases hm : k ∈ kvs.map (·.1)
  · rw [if_pos (h.mpr hm), if_pos hm, List.map_map]
    refine List.map_congr_left fun p _ => ?_
    by_cases hp : p.1 = k
    · simp [hp]
    · simp [hp]
  · rw [if_neg (fun x => hm (h.mp x)), if_neg hm, List.map_append]
    rfl
theorem pt_nodup {kvs : List (Int × β)} (h : (kvs.map (·.1)).Nodup) (k : Int) (v : β) : ((pt kvs k v).map (·.1)).Nodup := by
  rw [pt_keys]
  split
  · exact h
  · rename_i hm
    refine List.nodup_append.mpr ⟨h, by simp, fun a ha b hb => ?_⟩
    rw [List.mem_singleton] at hb
    subst hb
    intro e
    subst e
    exact hm ha
theorem gt_none {kvs : List (Int × β)} {k : Int} : gt kvs k = none ↔ k ∉ kvs.map (·.1) := by
  unfold gt
  rw [Option.map_eq_none_iff, List.find?_eq_none]
  constructor
  · intro h hm
    obtain ⟨p, hp, e⟩ := List.mem_map.mp hm
    exact h p hp (by simpa using e)
  · intro h p hp e
    exact h (List.mem_map.mpr ⟨p, hp, by simpa using e⟩)
theorem gt_put (kvs : List (Int × β)) (k : Int) (v : β) (j : Int) : gt (pt kvs k v) j = if j = k then some v else gt kvs j := by
  induction kvs with
  | nil =>
    by_cases h : j = k
    · subst h; simp [pt, gt]
    · simp [pt, gt, h, Ne.symm h]
  | cons p ps ih =>
    by_cases hp : p.1 = k
    · have e : pt (p :: ps) k v = (p.1, v) :: ps.map (fun q => if q.1 = k then (q.1, v) else q) := by
        simp [pt, hp]
      rw [e]
      by_cases h : j = k
      · subst h; simp [gt, hp]
      · have : ¬ p.1 = j := fun x => h (by rw [← x, hp])
        simp only [h, if_false, gt, List.find?_cons, this, decide_false]
        congr 1
        clear ih e
        induction ps with
        | nil => rfl
        | cons q qs ih2 =>
          rw [List.map_cons, List.find?_cons, List.find?_cons]
          by_cases hq : q.1 = k
          · have : ¬ q.1 = j := fun x => h (by rw [← x, hq])
            simp only [hq, if_true, show ¬ k = j from fun x => h x.symm, decide_false, ih2]
          · simp only [hq, if_false]
            by_cases hj : q.1 = j
            · simp only [hj, decide_true]
            · simp only [hj, decide_false, ih2]
    · have e : pt (p :: ps) k v = p :: pt ps k v := by
        simp only [pt, List.any_cons, hp, decide_false, Bool.false_or, List.map_cons, if_false, List.cons_append]
        split <;> rfl
      rw [e]
      by_cases hj : p.1 = j
      · subst hj
        simp [gt, hp]
      · have : gt (p :: pt ps k v) j = gt (pt ps k v) j := by simp [gt, hj]
        rw [this, ih]
        have : gt (p :: ps) j = gt ps j := by simp [gt, hj]
        rw [this]
theorem stD_dgz {S : Sto} {n : Nat} {d : List (Int × β)} {k : Int} {v : β} (hat : S[n]? = some (.dct (dgz f d))) (hd : d.length < 1000000) : stD (.ref n) (.int k) (f v) S = some (S.set n (.dct (dgz f (pt d k v)))) := by
  simp only [stD, hat, Pu.keyOf, Option.bind_some]
  rw [if_pos (sz (by rw [dgz_len]; omega)), dgz_put]
end
theorem prsK_rows : ∀ rs : List (Int × Int), prsK (rs.map rowD) = some (dz rs)
  | [] => rfl
  | r :: rs => by
    show ((Pu.keyOf (.int r.1)).bind fun q => (prsK (rs.map rowD)).map ((q, .int r.2) :: ·)) = _
    rw [prsK_rows rs]
    rfl
theorem mrg_dz : ∀ (xs h : List (Int × Int)), mrgD (dz h) (dz xs) = dz (xs.foldl (fun h r => putZ h r.1 r.2) h)
  | [], h => rfl
  | x :: xs, h => by
    show mrgD (putD (dz h) (.inl x.1) (.int x.2)) (dz xs) = _
    rw [dz_put, mrg_dz xs, List.foldl_cons]
noncomputable def homeZ (t : List (Int × Int)) : List (Int × Int) := t.foldl (fun h r => putZ h r.1 r.2) []
noncomputable def dOf (t : List (Int × Int)) (k : Int) : Int := (getZ (homeZ t) k).getD 0
theorem dct_rows (t : List (Int × Int)) (S : Sto) : dctP (tpD rowD t) S = .ok (.dct (dz (homeZ t))) S := by
  show (match prsK (t.map rowD) with | some kvs => Res.ok (DO.dct (mrgD [] kvs)) S | none => .bad) = _
  rw [prsK_rows]
  have := mrg_dz t []
  simp only
  rw [show ([] : List (Key × D)) = dz [] from rfl, this]
  rfl
theorem home_mem : ∀ (t h : List (Int × Int)) (k : Int), k ∈ t.map (·.1) ∨ k ∈ h.map (·.1) → k ∈ (t.foldl (fun h r => putZ h r.1 r.2) h).map (·.1)
  | [], h, k, hk => by simpa using hk
  | x :: t, h, k, hk => by
    rw [List.foldl_cons]
    refine home_mem t _ k ?_
    rw [List.map_cons, List.mem_cons] at hk
    rcases hk with (rfl | hk) | hk
    · exact .inr (mem_putZ.mpr (.inl rfl))
    · exact .inl hk
    · exact .inr (mem_putZ.mpr (.inr hk))
theorem home_at {t : List (Int × Int)} {k : Int} (h : k ∈ t.map (·.1)) : getZ (homeZ t) k = some (dOf t k) := by
  obtain ⟨v, hv⟩ := Option.isSome_iff_exists.mp (getZ_some_iff.mpr (home_mem t [] k (.inl h)))
  unfold dOf homeZ
  rw [hv]
  rfl
noncomputable def cellAt (ns : List Int) (k : Nat) : Int := ns[k]?.getD 0
theorem cell_at (ns : List Int) (k : Nat) (S : Sto) : F_law_cell_at [.fls (ns.map D.int), .int k] S = .ok (.int (cellAt ns k)) S := by
  simp only [F_law_cell_at, runD, b_law_cell_at]
  by_cases h : k < ns.length
  · have e : atI (ns.map D.int) (k : Int) = some (.int ns[k]) := atI_nat (by simp [h])
    simp [h, e, cellAt, fin_same]
  · simp [h, cellAt, fin_same]
theorem digit (S : Sto) (k : Nat) (x m : Int) (h : S[k]? = some (.lst [.int x])) (hm : 0 < m) (hl : m.natAbs.log2 < 9000) :
    F_law_digit [.ref k, .int m] S = .ok (.int (x % m)) (S.set k (.lst [.int (x / m)])) := by
  simp only [F_law_digit, runD, b_law_digit]
  have e := stD_lst (v := .int (x / m)) h (show ixN [D.int x].length 0 = some 0 from rfl)
  simp [ixD_ref h, modD_pos hm, fdivD_pos hm hl, e, fin_set0]
/-- the primes -/
noncomputable def prs : List D := [.int 104729, .int 104723, .int 104717, .int 104711, .int 104707, .int 104701, .int 104693]
theorem prs_at (k : Nat) : ∃ p : Int, atI prs ((k : Int) % 7) = some (.int p) ∧ 0 < p := by
  have h : k % 7 < 7 := Nat.mod_lt _ (by decide)
  have e : ((k : Int) % 7) = ((k % 7 : Nat) : Int) := by omega
  rw [e, atI_cast]
  generalize k % 7 = j at h
  match j, h with
  | 0, _ => exact ⟨_, rfl, by decide⟩
  | 1, _ => exact ⟨_, rfl, by decide⟩
  | 2, _ => exact ⟨_, rfl, by decide⟩
  | 3, _ => exact ⟨_, rfl, by decide⟩
  | 4, _ => exact ⟨_, rfl, by decide⟩
  | 5, _ => exact ⟨_, rfl, by decide⟩
  | 6, _ => exact ⟨_, rfl, by decide⟩
theorem big_turn (ns : List Int) (k n : Nat) (hk : k ≤ 1000) (hn : n < 70) (N : Int) (hN : 0 ≤ N) (c : Option D) (S : Sto) : ∃ M : Int, 0 ≤ M ∧
    turn [5, 6] (.nm 5) b_law_big_1 (.int n) [some (.fls (ns.map D.int)), some (.int k), c, some (.tup prs), some (.int N), none, none] S = .next [some (.fls (ns.map D.int)), some (.int k), c, some (.tup prs), some (.int M), none, none] S := by
  obtain ⟨p, hp, hp0⟩ := prs_at n
  have m7 : modD (.int (n : Int)) (.int 7) S = .ok (.int ((n : Int) % 7)) S := modD_pos (by decide)
  have a7 : ((k : Int) + (n : Int) % 7) = ((k + n % 7 : Nat) : Int) := by omega
  generalize hc0 : cellAt ns (k + n % 7) = c0
  have m18 : modD (.int c0) (.int 1000000000000000000) S = .ok (.int (c0 % 1000000000000000000)) S := modD_pos (by decide)
  have k1 : FitMul 11 n := .left (by decide) (by decide)
  have k2 : FitMul 13 k := .left (by decide) (by decide)
  have k3 : FitMul 17 n := .left (by decide) (by decide)
  generalize ho : c0 % 1000000000000000000 + 11 * (n : Int) + 13 * (k : Int) + 3 = o
  have hb : 0 ≤ o ∧ o < 2 ^ 62 := by
    have h1 : 0 ≤ c0 % 1000000000000000000 := Int.emod_nonneg _ (by decide)
    have h2 : c0 % 1000000000000000000 < 1000000000000000000 := Int.emod_lt_of_pos _ (by decide)
    omega
  have k4 : FitMul o o := .left (by omega) (by omega)
  have hoo : o * o < 2 ^ 62 * 2 ^ 62 := mul_lt hb.1 hb.2 hb.1 hb.2
  have hoo0 : 0 ≤ o * o := Int.mul_nonneg hb.1 hb.1
  generalize ho2 : o * o + 17 * (n : Int) + 1 = o2
  have k5 : PowOk o2 3 := .of (b := 126) (by omega) (by decide) (by decide)
  have mp : modD (.int (o2 ^ Int.toNat 3)) (.int p) S = .ok (.int (o2 ^ Int.toNat 3 % p)) S := modD_pos hp0
  have k6 : FitMul N 8191 := .right (by decide) (by decide)
  have k7 : FitMul (o2 ^ Int.toNat 3 % p) ((n : Int) + 5) := .right (by omega) (by omega)
  have ml : modD (.int (o2 ^ Int.toNat 3 % p * (n + 5))) (.int 8191) S = .ok (.int (o2 ^ Int.toNat 3 % p * (n + 5) % 8191)) S := modD_pos (by decide)
  refine ⟨N * 8191 + o2 ^ Int.toNat 3 % p * (n + 5) % 8191, ?_, ?_⟩
  · have h1 : 0 ≤ o2 ^ Int.toNat 3 % p * (n + 5) % 8191 := Int.emod_nonneg _ (by decide)
    omega
  · simp only [turn, b_law_big_1, bindT_nm, List.set, ap_Seq, ap_Set, ap_2, ap_Fn, ap_Args, ap_Args0, ap_Var0, ap_VarS, ap_C, Res.bind_ok, m7, addD_int, a7, cell_at, hc0, p10_18, m18, mulD_ok k1, mulD_ok k2, ho, Res.stm_ok, SRes.seq_next,
      mulD_ok k4, mulD_ok k3, ho2, powD_ok k5, ixD_tup, hp, opt_some, mp, mulD_ok k6, mulD_ok k7, ml]
    rfl
theorem big (ns : List Int) (k : Nat) (hk : k ≤ 1000) (S : Sto) : ∃ N : Int, 0 ≤ N ∧ F_law_big [.fls (ns.map D.int), .int k] S = .ok (.int N) S := by
  simp only [F_law_big, runD, b_law_big]
  simp only [ap_Seq, ap_Set, ap_Fn, ap_Args, ap_Args0, startE_a2, List.replicate, ap_Var0, ap_VarS, Res.bind_ok, cell_at, Res.stm_ok, SRes.seq_next, List.set, ap_If, ap_TB, ap_2, ap_C, p10_18, intD_int, if_true, toB_bl]
  by_cases hc : (1000000000000000000 : Int) ≤ cellAt ns k
  · refine ⟨cellAt ns k, by omega, ?_⟩
    simp [hc, pw18, fin_same]
  · simp only [hc, decide_false, Bool.false_eq_true, if_false, ap_Next, SRes.seq_next, ap_Tup, ap_Args, ap_Args0, Res.bind_ok, ap_C, ap_Set, Res.stm_ok, List.set, ap_Seq, ap_Fgt, ap_For, ap_iR1, srcR1_ap, show Rg62 70 from by decide, if_true, Src.items_tmp]
    obtain ⟨e', S', q, hI⟩ := for_inv0 (dead := [5, 6]) (tg := .nm 5) (body := b_law_big_1) (ys := rngD 0 70) (xs := rngD 0 70) (S := S) (e := [some (.fls (ns.map D.int)), some (.int k), some (.int (cellAt ns k)), some (.tup prs), some (.int 0), none, none])
      (fun n e S' => S' = S ∧ ∃ N : Int, 0 ≤ N ∧ e = [some (.fls (ns.map D.int)), some (.int k), some (.int (cellAt ns k)), some (.tup prs), some (.int N), none, none]) ⟨rfl, 0, Int.le_refl _, rfl⟩ (fun n e S' x hx ⟨eS, N, hN, ee⟩ => by
        subst eS ee
        obtain ⟨ex, hlt⟩ := rngD_get hx
        subst ex
        rw [Int.zero_add]
        obtain ⟨M, hM, q⟩ := big_turn ns k n hk (by omega) N hN (some (.int (cellAt ns k))) S'
        exact ⟨_, _, q, rfl, M, hM, rfl⟩)
    obtain ⟨rfl, N, hN, rfl⟩ := hI
    refine ⟨N, hN, ?_⟩
    have q : forD [5, 6] (.nm 5) (.tmp (rngD 0 70)) b_law_big_1 (rngD 0 70) [some (.fls (ns.map D.int)), some (.int k), some (.int (cellAt ns k)), some (.tup [.int 104729, .int 104723, .int 104717, .int 104711, .int 104707, .int 104701, .int 104693]), some (.int 0), none, none] S' = _ := q
    simp [hc, pw18, q, fin_same, srcR1_ap, show Rg62 70 from by decide]
theorem dig {S : Sto} {k : Nat} {x m : Int} (h : k < S.length) (hm : 0 < m) (hl : m.natAbs.log2 < 9000) : F_law_digit [.ref k, .int m] (Dg S k x) = .ok (.int (x % m)) (Dg S k (x / m)) := by
  rw [digit _ k x m (Dg_at h) hm hl, Dg_set]
noncomputable def tabD (t : Int × List (Int × Int)) : D := .tup [.int t.1, tpD rowD t.2]
noncomputable def lts (rs : List (Int × Int)) : List Int := rs.flatMap fun r => List.replicate r.2.toNat r.1
noncomputable def cst (x : Int) : List (Int × Int) → List (Int × Int)
  | [] => [(x, 1)]
  | r :: t => if r.1 = x then (r.1, r.2 + 1) :: t else (x, 1) :: r :: t
theorem cst_nil {x : Int} : cst x [] = [(x, 1)] := rfl
theorem cst_cons {x : Int} {r : Int × Int} {t : List (Int × Int)} : cst x (r :: t) = if r.1 = x then (r.1, r.2 + 1) :: t else (x, 1) :: r :: t := rfl
noncomputable def rle : List Int → List (Int × Int)
  | [] => []
  | x :: xs => cst x (rle xs)
noncomputable def Hf (rs : List (Int × Int)) : Prop := rle (lts rs) = rs
theorem lts_cons (r : Int × Int) (rs : List (Int × Int)) : lts (r :: rs) = List.replicate r.2.toNat r.1 ++ lts rs := by simp [lts]
theorem lts_app (xs ys : List (Int × Int)) : lts (xs ++ ys) = lts xs ++ lts ys := by simp [lts]
theorem Hf.uniq {xs ys : List (Int × Int)} (h : Hf xs) (h' : Hf ys) (e : lts xs = lts ys) : xs = ys := by
  rw [← h, ← h', e]
theorem cst_pos {x : Int} {f : List (Int × Int)} (h : ∀ q ∈ f, 0 < q.2) : ∀ q ∈ cst x f, 0 < q.2 := by
  cases f with
  | nil =>
    intro q hq
    rw [cst_nil, List.mem_singleton] at hq
    subst hq
    show (0 : Int) < 1
    decide
  | cons r t =>
    intro q hq
    rw [cst_cons] at hq
    split at hq
    · rcases List.mem_cons.mp hq with rfl | hq
      · have := h r List.mem_cons_self
        show 0 < r.2 + 1
        omega
      · exact h q (List.mem_cons_of_mem _ hq)
    · rcases List.mem_cons.mp hq with rfl | hq
      · show (0 : Int) < 1
        decide
      · exact h q hq
theorem rle_pos : ∀ l : List Int, ∀ q ∈ rle l, 0 < q.2
  | [] => fun q hq => absurd hq List.not_mem_nil
  | x :: xs => cst_pos (rle_pos xs)
theorem Hf.pos {xs : List (Int × Int)} (h : Hf xs) : ∀ q ∈ xs, 0 < q.2 := by
  intro q hq
  rw [← h] at hq
  exact rle_pos _ q hq
noncomputable def mgS (f : List (Int × Int)) (r : Int × Int) : List (Int × Int) := match f.getLast? with
  | some l => if l.1 = r.1 then f.dropLast ++ [(l.1, l.2 + r.2)] else f ++ [r]
  | none => f ++ [r]
theorem mgS_nil (r : Int × Int) : mgS [] r = [r] := by simp [mgS]
theorem mgS_one (a r : Int × Int) : mgS [a] r = if a.1 = r.1 then [(a.1, a.2 + r.2)] else [a, r] := by simp [mgS]
theorem mgS_cons (a b : Int × Int) (t : List (Int × Int)) (r : Int × Int) : mgS (a :: b :: t) r = a :: mgS (b :: t) r := by
  unfold mgS
  rw [List.getLast?_cons_cons]
  cases (b :: t).getLast? with
  | none => rfl
  | some l =>
    simp only
    split
    · simp
    · rfl
theorem cst_mgS (x : Int) (f : List (Int × Int)) (r : Int × Int) : cst x (mgS f r) = mgS (cst x f) r := by
  match f with
  | [] =>
    rw [mgS_nil]
    simp only [cst_nil, cst_cons]
    rw [mgS_one]
    by_cases h : r.1 = x
    · rw [if_pos h, if_pos h.symm, h, Int.add_comm]
    · rw [if_neg h, if_neg fun e => h e.symm]
  | [a] =>
    rw [mgS_one]
    by_cases h : a.1 = r.1
    · rw [if_pos h]
      simp only [cst_nil, cst_cons]
      by_cases h2 : a.1 = x
      · rw [if_pos h2, if_pos h2, mgS_one, if_pos h]
        simp only
        rw [Int.add_right_comm]
      · rw [if_neg h2, if_neg h2, mgS_cons, mgS_one, if_pos h]
    · rw [if_neg h]
      simp only [cst_nil, cst_cons]
      by_cases h2 : a.1 = x
      · rw [if_pos h2, if_pos h2, mgS_one, if_neg h]
      · rw [if_neg h2, if_neg h2, mgS_cons, mgS_one, if_neg h]
  | a :: b :: t =>
    rw [mgS_cons]
    simp only [cst_nil, cst_cons]
    by_cases h2 : a.1 = x
    · rw [if_pos h2, if_pos h2, mgS_cons]
    · rw [if_neg h2, if_neg h2, mgS_cons, mgS_cons]
theorem rle_rep (k : Int) : ∀ n : Nat, rle (List.replicate (n + 1) k) = [(k, (n : Int) + 1)]
  | 0 => rfl
  | n + 1 => by
    rw [List.replicate_succ]
    show cst k (rle (List.replicate (n + 1) k)) = _
    rw [rle_rep k n]
    simp only [cst_cons, if_true]
    simp
theorem rle_snoc (l : List Int) (k : Int) (n : Nat) : rle (l ++ List.replicate (n + 1) k) = mgS (rle l) (k, (n : Int) + 1) := by
  induction l with
  | nil => rw [List.nil_append, rle_rep]; exact (mgS_nil _).symm
  | cons x xs ih =>
    show cst x (rle (xs ++ List.replicate (n + 1) k)) = mgS (cst x (rle xs)) _
    rw [ih, cst_mgS]
theorem lts_mgS {f : List (Int × Int)} {r : Int × Int} (h : ∀ q ∈ f, 0 < q.2) (hr : 0 < r.2) : lts (mgS f r) = lts f ++ List.replicate r.2.toNat r.1 := by
  unfold mgS
  cases hl : f.getLast? with
  | none => simp [lts]
  | some l =>
    simp only
    split
    · rename_i e
      have ef : f = f.dropLast ++ [l] := by
        obtain ⟨g, hg⟩ := List.getLast?_eq_some_iff.mp hl
        rw [hg]; simp
      have hp := h l (by rw [ef]; simp)
      conv => rhs; rw [ef]
      rw [lts_app, lts_app]
      simp only [lts, List.flatMap_cons, List.flatMap_nil, List.append_nil, List.append_assoc]
      congr 1
      rw [← e, List.replicate_append_replicate]
      congr 1
      omega
    · simp [lts]
theorem Hf.nil : Hf [] := rfl
theorem Hf.mg {f : List (Int × Int)} {r : Int × Int} (h : Hf f) (hr : 0 < r.2) : Hf (mgS f r) := by
  unfold Hf
  rw [lts_mgS h.pos hr]
  obtain ⟨k, v⟩ := r
  obtain ⟨n, e⟩ : ∃ n : Nat, v.toNat = n + 1 := ⟨v.toNat - 1, by simp only at hr; omega⟩
  simp only
  rw [e, rle_snoc, h]
  congr 2
  simp only at hr
  omega
theorem mem_lts {x : Int} {rs : List (Int × Int)} (h : x ∈ lts rs) : x ∈ rs.map (·.1) := by
  obtain ⟨r, hr, hx⟩ := List.mem_flatMap.mp h
  rw [List.eq_of_mem_replicate hx]
  exact List.mem_map_of_mem hr
theorem lts_mem {rs : List (Int × Int)} (h : ∀ q ∈ rs, 0 < q.2) {r : Int × Int} (hr : r ∈ rs) : r.1 ∈ lts rs := by
  refine List.mem_flatMap.mpr ⟨r, hr, List.mem_replicate.mpr ⟨?_, rfl⟩⟩
  have := h r hr
  omega
/-- what heap makes -/
noncomputable def hpStep (f : List (Int × Int)) (r : Int × Int) : List (Int × Int) := if 0 < r.2 then (match f.getLast? with
  | some l => if l.1 = r.1 then f.dropLast ++ [(r.1, l.2 + r.2)] else f ++ [r]
  | none => f ++ [r]) else f
noncomputable def hp (rs : List (Int × Int)) : List (Int × Int) := rs.foldl hpStep []
theorem heap_turn (S : Sto) (c : D) (f : List (Int × Int)) (r : Int × Int) (hn : f.length < 1048576) : turn [2, 3] (.tp [.nm 2, .nm 3]) b_law_heap_1 (rowD r) [some c, some (.ref S.length), none, none] (S ++ [.lst (f.map rowD)]) = .next [some c, some (.ref S.length), none, none] (S ++ [.lst ((hpStep f r).map rowD)]) := by
  obtain ⟨a, b⟩ := r
  have hat : (S ++ [DO.lst (f.map rowD)])[S.length]? = some (.lst (f.map rowD)) := last_at
  have hnil := neR_nil rpRow (by decide) hat
  have hap : appD (.ref S.length) [.tup [.int a, .int b]] (S ++ [DO.lst (f.map rowD)]) = .ok .non (S ++ [DO.lst ((f ++ [(a, b)]).map rowD)]) := by
    rw [appD_ref hat (sz (by simpa using hn)), set_last, List.map_append]
    rfl
  have hb : bindT (.tp [.nm 2, .nm 3]) (rowD (a, b)) [some c, some (.ref S.length), none, none] = some [some c, some (.ref S.length), some (.int a), some (.int b)] := rfl
  simp only [turn, hb, b_law_heap_1, goS, goI, hnil, ixD_ref hat, atI_m1, List.getLast?_map]
  by_cases h0 : b > 0
  · have h0' : 0 < b := h0
    simp only [h0, decide_true, goS, hnil]
    cases hl : f.getLast? with
    | none =>
      have : f = [] := by simpa using hl
      subst this
      simp only [hnil, List.isEmpty_nil, Bool.not_true, goS, goI, h0, decide_true, isT_ref hat, hap, hpStep, h0', List.getLast?_nil]
    | some l =>
      have hne : f.isEmpty = false := by cases f with | nil => cases hl | cons => rfl
      obtain ⟨l1, l2⟩ := l
      simp only [hnil, hne, Bool.not_false, goS, goI, ixD_ref hat, atI_m1, List.getLast?_map, hl, Option.map_some, show rowD (l1, l2) = D.tup [.int l1, .int l2] from rfl, atI_0, List.getElem?_cons_zero]
      by_cases h1 : l1 = a
      · have hs := stD_lst (v := .tup [.int a, .int (l2 + b)]) (j := -1) hat (ixN_m1 (by cases f with | nil => cases hl | cons => simp))
        have hs' : (f.map rowD).set ((f.map rowD).length - 1) (.tup [.int a, .int (l2 + b)]) = (f.dropLast ++ [(a, l2 + b)]).map rowD := by
          rw [set_end (l := rowD (l1, l2)) (by simp [hl]), List.map_append, List.map_dropLast]
          rfl
        rw [hs', set_last] at hs
        simp only [h1, decide_true, goS, goI, ixD_ref hat, atI_m1, List.getLast?_map, hl, Option.map_some, show rowD (a, l2) = D.tup [.int a, .int l2] from rfl, atI_1, List.getElem?_cons_zero, List.getElem?_cons_succ, hs, hpStep, h0', if_true]
      · simp only [h1, decide_false, goS, goI, if_true, h0, decide_true, isT_ref hat, hap, hpStep, h0', hl, if_false]
  · have h0' : ¬ 0 < b := h0
    simp only [h0, decide_false, goS, goI, if_true, hpStep, h0', if_false]
theorem hpStep_len (f : List (Int × Int)) (r : Int × Int) : (hpStep f r).length ≤ f.length + 1 := by
  unfold hpStep
  split
  · split
    · split
      · simp
      · simp
    · simp
  · omega
theorem heap_loop (S : Sto) (c : D) (src : Src) (ok : ∀ f, src.ok (S ++ [.lst f])) : ∀ (xs f : List (Int × Int)), f.length + xs.length < 1000000 → forD [2, 3] (.tp [.nm 2, .nm 3]) src b_law_heap_1 (xs.map rowD) [some c, some (.ref S.length), none, none] (S ++ [.lst (f.map rowD)]) = .next [some c, some (.ref S.length), none, none] (S ++ [.lst ((xs.foldl hpStep f).map rowD)])
  | [], f, _ => forD_nil (ok _)
  | x :: xs, f, h => by
    rw [List.length_cons] at h
    rw [List.map_cons, forD_cons (ok _), heap_turn S _ f x (by omega)]
    exact heap_loop S c src ok xs _ (by have := hpStep_len f x; omega)
theorem lawheapS (S : Sto) (d : D) (rs : List (Int × Int)) (hd : isSq d (rs.map rowD)) (hn : rs.length < 1000000) : F_law_heap [d] S = .ok (tpD rowD (hp rs)) S := by
  simp only [F_law_heap, runD, b_law_heap, ap_Seq, ap_Set, ap_New, ap_nLst, ap_Args0, startE_a1, List.replicate, Res.bind_ok, Res.stm_ok, SRes.seq_next, List.set, ap_Fgt]
  have q := heap_loop S d (.tmp (rs.map rowD)) (fun _ => trivial) rs [] (by simpa using hn)
  rw [List.map_nil] at q
  rw [forS (xs := rs.map rowD) rfl hd, q]
  have hat : (S ++ [DO.lst ((hp rs).map rowD)])[S.length]? = some (.lst ((hp rs).map rowD)) := last_at
  simp only [goS, show List.foldl hpStep [] rs = hp rs from rfl, tupD_ref hat]
  exact fin_app (rpRow.tp.gnd (hp rs))
theorem lawheap (S : Sto) (rs : List (Int × Int)) (hn : rs.length < 1000000) : F_law_heap [tpD rowD rs] S = .ok (tpD rowD (hp rs)) S := lawheapS S _ rs (.inl rfl) hn
theorem hp_len (rs : List (Int × Int)) : (hp rs).length ≤ rs.length := by
  have : ∀ (xs f : List (Int × Int)), (xs.foldl hpStep f).length ≤ f.length + xs.length := by
    intro xs
    induction xs with
    | nil => intro f; simp
    | cons x xs ih =>
      intro f
      have h1 := ih (hpStep f x)
      have h2 := hpStep_len f x
      simp only [List.foldl_cons, List.length_cons]
      omega
  have := this rs []
  simp only [List.length_nil, Nat.zero_add] at this
  exact this
/-- neighbours with other keys, all of them something -/
noncomputable def Heap (f : List (Int × Int)) : Prop := ∀ (g : List (Int × Int)) (r : Int × Int) (t : List (Int × Int)), f = g ++ r :: t → 0 < r.2 ∧ ∀ l, g.getLast? = some l → l.1 ≠ r.1
theorem Heap.app {f : List (Int × Int)} (hf : Heap f) {r : Int × Int} (h0 : 0 < r.2) (h1 : ∀ l, f.getLast? = some l → l.1 ≠ r.1) : Heap (f ++ [r]) := by
  intro g r' t e
  rcases List.eq_nil_or_concat t with ht | ⟨t', y, ht⟩
  · subst ht
    obtain ⟨e1, e2⟩ := List.append_inj' e rfl
    simp only [List.cons.injEq, and_true] at e2
    subst e1 e2
    exact ⟨h0, h1⟩
  · rw [List.concat_eq_append] at ht
    subst ht
    have e' : f ++ [r] = (g ++ r' :: t') ++ [y] := by simpa using e
    obtain ⟨e1, _⟩ := List.append_inj' e' rfl
    exact hf g r' t' e1
theorem Heap.pre {g t : List (Int × Int)} (h : Heap (g ++ t)) : Heap g := by
  intro g' r t' e
  exact h g' r (t' ++ t) (by rw [e]; simp)
theorem hpStep_heap {f : List (Int × Int)} (hf : Heap f) (r : Int × Int) : Heap (hpStep f r) := by
  unfold hpStep
  split
  · rename_i h0
    split
    · rename_i l hl
      split
      · rename_i h1
        rcases List.eq_nil_or_concat f with e | ⟨g, y, e⟩
        · subst e; cases hl
        · rw [List.concat_eq_append] at e
          subst e
          simp only [List.getLast?_append, List.getLast?_singleton, Option.some_or, Option.some.injEq] at hl
          subst hl
          have h2 := hf g y [] rfl
          rw [List.dropLast_concat]
          refine hf.pre.app (by simp only; omega) fun l hl => ?_
          simp only
          rw [← h1]
          exact h2.2 l hl
      · rename_i h1
        exact hf.app h0 fun l' hl' => by
          rw [hl] at hl'
          cases hl'
          exact h1
    · rename_i hl
      exact hf.app h0 fun l' hl' => by
        rw [hl] at hl'
        cases hl'
  · exact hf
theorem hp_heap (rs : List (Int × Int)) : Heap (hp rs) := by
  have : ∀ (xs f : List (Int × Int)), Heap f → Heap (xs.foldl hpStep f) := by
    intro xs
    induction xs with
    | nil => intro f h; exact h
    | cons x xs ih => intro f h; exact ih _ (hpStep_heap h x)
  exact this rs [] (fun g r t e => by simp at e)
theorem hp_of {f : List (Int × Int)} (h : Heap f) : hp f = f := by
  have : ∀ (xs f : List (Int × Int)), Heap (f ++ xs) → xs.foldl hpStep f = f ++ xs := by
    intro xs
    induction xs with
    | nil => intro f _; simp
    | cons x xs ih =>
      intro f h
      obtain ⟨h0, h1⟩ := h f x xs rfl
      have e : hpStep f x = f ++ [x] := by
        unfold hpStep
        rw [if_pos h0]
        cases hl : f.getLast? with
        | none => rfl
        | some l => simp only [h1 l hl, if_false]
      rw [List.foldl_cons, e, ih (f ++ [x]) (by simpa using h)]
      simp
  exact this f [] h
theorem hpStep_mg (f : List (Int × Int)) (r : Int × Int) (h : 0 < r.2) : hpStep f r = mgS f r := by
  unfold hpStep mgS
  rw [if_pos h]
  cases f.getLast? with
  | none => rfl
  | some l =>
    simp only
    by_cases e : l.1 = r.1
    · rw [if_pos e, if_pos e, e]
    · rw [if_neg e, if_neg e]
theorem lts_nonpos {r : Int × Int} (h : ¬ 0 < r.2) (rs : List (Int × Int)) : lts (r :: rs) = lts rs := by
  rw [lts_cons, show r.2.toNat = 0 by omega]
  rfl
theorem hp_facts (rs : List (Int × Int)) : Hf (hp rs) ∧ lts (hp rs) = lts rs := by
  have : ∀ (xs f : List (Int × Int)), Hf f → Hf (xs.foldl hpStep f) ∧ lts (xs.foldl hpStep f) = lts f ++ lts xs := by
    intro xs
    induction xs with
    | nil => intro f h; exact ⟨h, by simp [lts]⟩
    | cons x xs ih =>
      intro f h
      by_cases hx : 0 < x.2
      · rw [List.foldl_cons, hpStep_mg f x hx]
        obtain ⟨h1, h2⟩ := ih (mgS f x) (h.mg hx)
        exact ⟨h1, by rw [h2, lts_mgS h.pos hx, lts_cons, List.append_assoc]⟩
      · have e : hpStep f x = f := if_neg hx
        rw [List.foldl_cons, e, lts_nonpos hx]
        exact ih f h
  exact this rs [] Hf.nil
theorem inL_ints {k : Int} {xs : List Int} {neg : Bool} {S : Sto} : inD neg (.int k) (.lst (xs.map D.int)) S = .ok (.bl (if neg = true then !decide (k ∈ xs) else decide (k ∈ xs))) S := by
  have h1 : SeqAt.shaped (.list (pys (xs.map D.int))) = true := by
    have := (Rp.int.ls).shp (by decide) xs S
    simpa [Pu.shp, lsD, pyOf, D.py] using this
  have h2 : ((pys (xs.map D.int)).any fun z => PyData.eqv z (D.int k).py) = decide (k ∈ xs) := by
    induction xs with
    | nil => rfl
    | cons x xs ih =>
      have ih := ih (by
        have := (Rp.int.ls).shp (by decide) xs S
        simpa [Pu.shp, lsD, pyOf, D.py] using this)
      rw [List.map_cons]
      show (PyData.eqv (D.int x).py (D.int k).py || (pys (xs.map D.int)).any _) = _
      rw [ih]
      have : PyData.eqv (D.int x).py (D.int k).py = decide (x = k) := by
        by_cases e : x = k
        · rw [decide_eq_true e]; exact (Rp.int.1 x k).mpr e
        · rw [decide_eq_false e]
          refine Bool.eq_false_iff.mpr fun h => e ((Rp.int.1 x k).mp h)
      rw [this]
      by_cases e : x = k
      · simp [e]
      · simp [e, show ¬ k = x from fun z => e z.symm]
  unfold inD
  simp only [dcOf, lsOf]
  rw [if_pos ⟨rfl, h1⟩, h2]
theorem l59 : (10 ^ 59 : Int).natAbs.log2 < 9000 := by decide +kernel
theorem lit_at {ms : List Int} {x : Int} {m : Nat} (hm : ms.length = m) (h0 : 0 < m) (hp : ∀ p ∈ ms, 0 < p ∧ p.natAbs.log2 < 9000) : ∃ p : Int, atI (ms.map D.int) (x % (m : Int)) = some (.int p) ∧ 0 < p ∧ p.natAbs.log2 < 9000 := by
  subst hm
  have h1 : 0 ≤ x % (ms.length : Int) := Int.emod_nonneg _ (by omega)
  have h2 : x % (ms.length : Int) < ms.length := Int.emod_lt_of_pos _ (by omega)
  obtain ⟨j, hj⟩ := Int.eq_ofNat_of_zero_le h1
  rw [hj, atI_cast]
  have h3 : j < ms.length := by omega
  exact ⟨ms[j], by simp [h3], hp _ (List.getElem_mem h3)⟩
theorem lit129 : ∀ p ∈ ([1, 2, 9] : List Int), 0 < p ∧ p.natAbs.log2 < 9000 := by
  intro p hp
  simp only [List.mem_cons, List.not_mem_nil, or_false] at hp
  rcases hp with rfl | rfl | rfl <;> decide +kernel
theorem keys_turn {S : Sto} {k m : Nat} (h : k < S.length) (ks : List Int) (key y : Int) (hn : ks.length < 6) : ∃ key' y' : Int, turn [4] (.nm 4) b_law_keys_1 (.int (ks.length : Int)) [some (D.ref k), some (D.int m), some (D.ref S.length), some (D.int key), none] (Dg (S ++ [DO.lst (ks.map D.int)]) k y) =
    .next [some (D.ref k), some (D.int m), some (D.ref S.length), some (D.int key'), none] (Dg (S ++ [DO.lst ((ks ++ [key']).map D.int)]) k y') := by
  have h' : k < (S ++ [DO.lst (ks.map D.int)]).length := by simp; omega
  obtain ⟨p, hp, h0, hl⟩ := lit_at (ms := [1, 2, 9]) (x := y) (m := 3) rfl (by decide) lit129
  have hp' : atI [D.int 1, D.int 2, D.int 9] (y % 3) = some (.int p) := hp
  generalize hb : (decide ((ks.length : Int) > 0)) = b0
  have hat : (Dg (S ++ [DO.lst (ks.map D.int)]) k (y / 3 / p))[S.length]? = some (.lst (ks.map D.int)) := by
    rw [Dg_ne (by omega), last_at]
  have hap := appD_ref (y := .int (key + (if b0 = true then 1 else 0) + y / 3 % p)) hat (sz (by simp; omega))
  refine ⟨key + (if b0 = true then 1 else 0) + y / 3 % p, y / 3 / p, ?_⟩
  simp only [turn, b_law_keys_1, bindT_nm, List.set, ap_Seq, ap_Set, ap_2, ap_Fn, ap_Args, ap_Args0, ap_Call, ap_Var0, ap_VarS, ap_C, Res.bind_ok, intD_int, hb, int1_bl, addD_int, dig h' (show (0 : Int) < 3 by decide) (by decide), ap_Tup, ixD_tup, hp', opt_some, dig h' h0 hl, Res.stm_ok, SRes.seq_next, ap_Expr, ap_M, isT_ref hat, if_true, hap, wipe_cons, wipe_nil]
  rw [Dg_comm (by omega), set_last, List.map_append]
  rfl
theorem keys {S : Sto} {k : Nat} {x : Int} {m : Nat} (h : k < S.length) (hm : m ≤ 6) : ∃ (ks : List Int) (y : Int), F_law_keys [.ref k, .int m] (Dg S k x) = .ok (.lst (ks.map D.int)) (Dg S k y) ∧ ks.length = m := by
  simp only [F_law_keys, runD, b_law_keys]
  simp only [ap_Seq, ap_Set, ap_New, ap_nLst, ap_Args0, startE_a2, List.replicate, Res.bind_ok, Res.stm_ok, SRes.seq_next, List.set, ap_C]
  rw [Dg_app h, Dg_len]
  have h' : k < (S ++ [DO.lst []]).length := by simp; omega
  simp only [ap_If, ap_TB, ap_2, ap_Fn, ap_Args, ap_Args0, ap_Var0, ap_C, Res.bind_ok, dig h' (show (0 : Int) < 4 by decide) (by decide), eqD_int, toB_bl, Res.stm_ok]
  have e2 : ∃ (key y : Int), (if (decide (x % 4 = 1)) = true then (sSet 3 (eFn F_law_digit [(eVar 0), (e2 powD (eC (.int 10)) (eC (.int 59)))])) [some (D.ref k), some (D.int m), some (D.ref S.length), some (D.int 0), none] (Dg (S ++ [DO.lst []]) k (x / 4)) else sNext [some (D.ref k), some (D.int m), some (D.ref S.length), some (D.int 0), none] (Dg (S ++ [DO.lst []]) k (x / 4))) = .next [some (D.ref k), some (D.int m), some (D.ref S.length), some (D.int key), none] (Dg (S ++ [DO.lst []]) k y) := by
    by_cases hc : x % 4 = 1
    · refine ⟨x / 4 % 10 ^ 59, x / 4 / 10 ^ 59, ?_⟩
      simp only [hc, decide_true, if_true, ap_Set, ap_Fn, ap_Args, ap_Args0, ap_Var0, ap_2, ap_C, p10_59, Res.bind_ok, dig h' (show (0 : Int) < 10 ^ 59 by decide +kernel) l59, Res.stm_ok, List.set]
    · exact ⟨0, x / 4, by simp [hc]⟩
  obtain ⟨key, y, q⟩ := e2
  rw [q]
  rw [SRes.seq_next, ap_Seq, ap_Fgt, forR1 (n := m) rfl (by omega)]
  obtain ⟨e', S', q, hI⟩ := for_inv0 (dead := [4]) (tg := .nm 4) (body := b_law_keys_1) (ys := rngD 0 m) (xs := rngD 0 m) (S := Dg (S ++ [DO.lst []]) k y) (e := [some (D.ref k), some (D.int m), some (D.ref S.length), some (D.int key), none])
    (fun n e S' => ∃ (ks : List Int) (key y : Int), ks.length = n ∧ e = [some (D.ref k), some (D.int m), some (D.ref S.length), some (D.int key), none] ∧ S' = Dg (S ++ [DO.lst (ks.map D.int)]) k y) ⟨[], key, y, rfl, rfl, rfl⟩ (fun n e S' z hz ⟨ks, key, y, hn, he, hS⟩ => by
      subst he hS hn
      obtain ⟨ez, hlt⟩ := rngD_get hz
      subst ez
      rw [Int.zero_add]
      obtain ⟨key', y', q⟩ := keys_turn (m := m) h ks key y (by omega)
      exact ⟨_, _, q, ks ++ [key'], key', y', by simp, rfl, rfl⟩)
  obtain ⟨ks, key', y', hn, rfl, rfl⟩ := hI
  rw [q]
  refine ⟨ks, y', ?_, by simpa using hn⟩
  simp [fin_dgR h]
theorem lit_at2 {ms : List Int} {x : Int} {m : Nat} (hm : ms.length = m) (h0 : 0 < m) : ∃ p : Int, p ∈ ms ∧ atI (ms.map D.int) (x % (m : Int)) = some (.int p) := by
  subst hm
  have h1 : 0 ≤ x % (ms.length : Int) := Int.emod_nonneg _ (by omega)
  have h2 : x % (ms.length : Int) < ms.length := Int.emod_lt_of_pos _ (by omega)
  obtain ⟨j, hj⟩ := Int.eq_ofNat_of_zero_le h1
  rw [hj, atI_cast]
  have h3 : j < ms.length := by omega
  exact ⟨ms[j], List.getElem_mem h3, by simp [h3]⟩
theorem lit57 : ∀ p ∈ ([2, 5, 12, 10 ^ 57] : List Int), 0 < p ∧ p.natAbs.log2 < 9000 := by
  intro p hp
  simp only [List.mem_cons, List.not_mem_nil, or_false] at hp
  rcases hp with rfl | rfl | rfl | rfl <;> decide +kernel
theorem lit57b : ∀ p ∈ ([2, 5, 12, 10 ^ 57] : List Int), p ≤ 10 ^ 57 := by
  intro p hp
  simp only [List.mem_cons, List.not_mem_nil, or_false] at hp
  rcases hp with rfl | rfl | rfl | rfl <;> decide +kernel
theorem whole2 {S : Sto} {k : Nat} {x : Int} (h : k < S.length) : ∃ d y : Int, 0 ≤ d ∧ d < 10 ^ 57 ∧ F_law_whole [.ref k] (Dg S k x) = .ok (.int d) (Dg S k y) := by
  obtain ⟨p, hm, hp⟩ := lit_at2 (ms := [2, 5, 12, 10 ^ 57]) (x := x) (m := 4) rfl (by decide)
  obtain ⟨h0, hl⟩ := lit57 p hm
  have hb := lit57b p hm
  have h1 := Int.emod_lt_of_pos (x / 4) h0
  refine ⟨x / 4 % p, x / 4 / p, Int.emod_nonneg _ (by omega), by omega, ?_⟩
  simp only [F_law_whole, runD, b_law_whole, ap_Ret, ap_Fn, ap_Args, ap_Args0, ap_2, ap_Tup, ap_C, startE_a1, ap_Var0, Res.bind_ok, p10_57, dig h (show (0 : Int) < 4 by decide) (by decide), ixD_tup]
  have hp' : atI [D.int 2, D.int 5, D.int 12, D.int (10 ^ 57)] (x % 4) = some (.int p) := hp
  simp only [hp', opt_some, Res.bind_ok, ap_Args, ap_Args0, ap_Var0, dig h h0 hl, Res.stm_ok, retD_ret]
  exact fin_dg0 h rfl
noncomputable def RC (ks : List Int) (far : Bool) (r : Int × Int) : Prop := r.1 ∈ ks ∧ 0 ≤ r.2 ∧ (far = false → r.2 < 4) ∧ r.2 < 10 ^ 57
theorem rb4 (y : Int) : 0 ≤ y % 4 ∧ y % 4 < 10 ^ 57 := by
  have h1 : (4 : Int) ≤ 10 ^ 57 := by decide
  omega
theorem rows_turn {S : Sto} {k : Nat} (h : k < S.length) (ks : List Int) (hk : 0 < ks.length) (hk' : ks.length ≤ 6) (m : Nat) (far : Bool) (rs : List (Int × Int)) (y : Int) (i : Int) (hn : rs.length < 64) : ∃ (r : Int × Int) (y' : Int), RC ks far r ∧ turn [5, 6] (.nm 5) b_law_rows_1 (.int i) [some (D.ref k), some (D.lst (ks.map D.int)), some (D.int m), some (.bl far), some (.ref S.length), none, none] (Dg (S ++ [DO.lst (rs.map rowD)]) k y) =
    .next [some (D.ref k), some (D.lst (ks.map D.int)), some (D.int m), some (.bl far), some (.ref S.length), none, none] (Dg (S ++ [DO.lst ((rs ++ [r]).map rowD)]) k y') := by
  have h' : k < (S ++ [DO.lst (rs.map rowD)]).length := by simp; omega
  have tail : ∀ (o z : Int), 0 ≤ o → (far = false → o < 4) → o < 10 ^ 57 → ∃ (r : Int × Int) (y' : Int), RC ks far r ∧ aft [5, 6] ((sExpr (eM "list" appD (eVar 4) [(eTup [(e2 ixD (eVar 1) (eFn F_law_digit [(eVar 0), (eCall lenD [(eVar 1)])])), (eVar 6)])])) [some (D.ref k), some (D.lst (ks.map D.int)), some (D.int m), some (.bl far), some (.ref S.length), some (.int i), some (.int o)] (Dg (S ++ [DO.lst (rs.map rowD)]) k z)) = .next [some (D.ref k), some (D.lst (ks.map D.int)), some (D.int m), some (.bl far), some (.ref S.length), none, none] (Dg (S ++ [DO.lst ((rs ++ [r]).map rowD)]) k y') := by
    intro o z o0 o4 o1
    have hl : (((ks.map D.int).length : Nat) : Int) = (ks.length : Int) := by simp
    have h1 : 0 ≤ z % (ks.length : Int) := Int.emod_nonneg _ (by omega)
    have h2 : z % (ks.length : Int) < ks.length := Int.emod_lt_of_pos _ (by omega)
    obtain ⟨j, hj⟩ := Int.eq_ofNat_of_zero_le h1
    have h3 : j < ks.length := by omega
    have ha : atI (ks.map D.int) (z % (ks.length : Int)) = some (.int ks[j]) := by
      rw [hj, atI_cast]
      simp [h3]
    have hat : (Dg (S ++ [DO.lst (rs.map rowD)]) k (z / ks.length))[S.length]? = some (.lst (rs.map rowD)) := by
      rw [Dg_ne (by omega), last_at]
    have hap := appD_ref (y := rowD (ks[j], o)) hat (sz (by simp; omega))
    have lg : (ks.length : Int).natAbs.log2 < 9000 := by
      have : (ks.length : Int).natAbs.log2 ≤ (ks.length : Int).natAbs := Nat.log2_le_self _
      omega
    refine ⟨(ks[j], o), z / ks.length, ⟨List.getElem_mem h3, o0, o4, o1⟩, ?_⟩
    simp only [ap_Expr, ap_M, ap_VarS, ap_Var0, Res.bind_ok, isT_ref (Dg_last (o := .lst (rs.map rowD)) (z := z) h), if_true, ap_Args, ap_Args0, ap_Tup, ap_2, ap_Fn, ap_Call, lenD_lst, hl, dig h' (show (0 : Int) < ks.length by omega) lg, ixD_lst, ha, opt_some]
    rw [show [D.tup [D.int ks[j], D.int o]] = [rowD (ks[j], o)] from rfl, hap, Res.stm_ok, Dg_comm (by omega), set_last, List.map_append]
    rfl
  cases far with
  | false =>
    obtain ⟨r, y', hb, q⟩ := tail (y % 4) (y / 4) (rb4 y).1 (fun _ => by omega) (rb4 y).2
    refine ⟨r, y', hb, ?_⟩
    rw [← q]
    simp only [turn, b_law_rows_1, bindT_nm, List.set, ap_Seq, ap_Set, ap_Fn, ap_Args, ap_Args0, ap_Var0, ap_C, Res.bind_ok, dig h' (show (0 : Int) < 4 by decide) (by decide), Res.stm_ok, SRes.seq_next, ap_If, ap_Tr, ap_VarS, truD_bl, Bool.false_eq_true, if_false, ap_Next]
  | true =>
    obtain ⟨d, z, d0, d1, qw⟩ := whole2 (S := S ++ [DO.lst (rs.map rowD)]) (k := k) (x := y / 4) h'
    obtain ⟨r, y', hb, q⟩ := tail d z d0 (fun z => nomatch z) d1
    refine ⟨r, y', hb, ?_⟩
    rw [← q]
    simp only [turn, b_law_rows_1, bindT_nm, List.set, ap_Seq, ap_Set, ap_Fn, ap_Args, ap_Args0, ap_Var0, ap_C, Res.bind_ok, dig h' (show (0 : Int) < 4 by decide) (by decide), Res.stm_ok, SRes.seq_next, ap_If, ap_Tr, ap_VarS, truD_bl, if_true, qw]
theorem rows {S : Sto} {k : Nat} {x : Int} (h : k < S.length) (ks : List Int) (hk : 0 < ks.length) (hk' : ks.length ≤ 6) (m : Nat) (hm : m < 64) (far : Bool) : ∃ (rs : List (Int × Int)) (y : Int), F_law_rows [.ref k, .lst (ks.map D.int), .int m, .bl far] (Dg S k x) = .ok (tpD rowD rs) (Dg S k y) ∧ rs.length = m ∧ ∀ r ∈ rs, RC ks far r := by
  simp only [F_law_rows, runD, b_law_rows]
  simp only [ap_Seq, ap_Set, ap_New, ap_nLst, ap_Args0, startE_a4, List.replicate, Res.bind_ok, Res.stm_ok, SRes.seq_next, List.set, ap_C]
  rw [Dg_app h, Dg_len, ap_Fgt, forR1 (n := m) rfl (by omega)]
  obtain ⟨e', S', q, hI⟩ := for_inv0 (dead := [5, 6]) (tg := .nm 5) (body := b_law_rows_1) (ys := rngD 0 m) (xs := rngD 0 m) (S := Dg (S ++ [DO.lst []]) k x) (e := [some (D.ref k), some (D.lst (ks.map D.int)), some (D.int m), some (.bl far), some (.ref S.length), none, none])
    (fun n e S' => ∃ (rs : List (Int × Int)) (y : Int), rs.length = n ∧ (∀ r ∈ rs, RC ks far r) ∧ e = [some (D.ref k), some (D.lst (ks.map D.int)), some (D.int m), some (.bl far), some (.ref S.length), none, none] ∧ S' = Dg (S ++ [DO.lst (rs.map rowD)]) k y) ⟨[], x, rfl, fun r h => absurd h List.not_mem_nil, rfl, rfl⟩ (fun n e S' z hz ⟨rs, y, hn, hB, he, hS⟩ => by
      subst he hS hn
      obtain ⟨ez, hlt⟩ := rngD_get hz
      subst ez
      obtain ⟨r, y', hb, q⟩ := rows_turn h ks hk hk' m far rs y (0 + rs.length) (by omega)
      exact ⟨_, _, q, rs ++ [r], y', by simp, fun v hv => (List.mem_append.mp hv).elim (hB v) fun h => by rw [List.mem_singleton] at h; rw [h]; exact hb, rfl, rfl⟩)
  obtain ⟨rs, y', hn, hB, rfl, rfl⟩ := hI
  rw [q]
  refine ⟨rs, y', ?_, by simpa using hn, hB⟩
  have hat : (Dg (S ++ [DO.lst (rs.map rowD)]) k y')[S.length]? = some (.lst (rs.map rowD)) := by
    rw [Dg_ne (by omega), last_at]
  simp only [fgt_next, wipe_cons, wipe_nil, List.set, SRes.seq_next, ap_Ret, ap_Call, ap_Args, ap_Args0, ap_VarS, ap_Var0, Res.bind_ok, tupD_ref hat, Res.stm_ok, retD_ret]
  rw [← Dg_app h]
  exact fin_dg h (rpRow.tp.gnd rs)
theorem lc_inv2 {tg : Tg} {t : Ev Bool} {f : Ev D} {e : En} {ys : List D} (I : Nat → Sto → List D → Prop) : ∀ (xs : List D) (k : Nat) (S : Sto) (acc : List D), I k S acc →
    (∀ (n : Nat) (S : Sto) (acc : List D) (x : D), xs[n]? = some x → I (k + n) S acc → ∃ e1 b S1, bindT tg x e = some e1 ∧ t e1 S = .ok b S1 ∧ (b = true → ∃ d S2, f e1 S1 = .ok d S2 ∧ I (k + n + 1) S2 (acc ++ [d])) ∧ (b = false → I (k + n + 1) S1 acc)) →
    ∃ ds S', lcD tg (.tmp ys) t f e xs S = .ok ds S' ∧ I (k + xs.length) S' (acc ++ ds)
  | [], k, S, acc, h0, _ => ⟨[], S, by rw [lcD_nil, if_pos (show (Src.tmp ys).ok S from trivial)], by simpa using h0⟩
  | x :: xs, k, S, acc, h0, h => by
    obtain ⟨e1, b, S1, q1, q2, h1, h2⟩ := h 0 S acc x rfl h0
    have nxt : ∀ (S2 : Sto) (acc2 : List D), I (k + 1) S2 acc2 → ∃ ds S', lcD tg (.tmp ys) t f e xs S2 = .ok ds S' ∧ I (k + 1 + xs.length) S' (acc2 ++ ds) := fun S2 acc2 hI => lc_inv2 (ys := ys) I xs (k + 1) S2 acc2 hI fun n S acc y hy hI => by
      have := h (n + 1) S acc y (by simpa using hy)
      rw [show k + (n + 1) = k + 1 + n by omega] at this
      exact this hI
    rw [List.length_cons, show k + (xs.length + 1) = k + 1 + xs.length by omega, lcD_cons, if_pos (show (Src.tmp ys).ok S from trivial), q1]
    simp only [q2, nox_ok, Res.bind_ok]
    cases b with
    | true =>
      obtain ⟨d, S2, q3, h3⟩ := h1 rfl
      obtain ⟨ds, S', q4, h4⟩ := nxt S2 _ h3
      exact ⟨d :: ds, S', by simp only [if_true, q3, nox_ok, Res.bind_ok, q4], by simpa using h4⟩
    | false =>
      obtain ⟨ds, S', q4, h4⟩ := nxt S1 _ (h2 rfl)
      exact ⟨ds, S', by rw [if_neg Bool.false_ne_true, q4], h4⟩
theorem nLcS2 {vs : List Nat} {tg : Tg} {f g : Ev D} {t : Ev Bool} {e : En} {S S2 : Sto} {xs ys : List D} (hf : f e S = .ok (.lst xs) S) (hl : xs.length < 1048576) (q : lcD tg (.tmp xs) t g (wipeE e vs) xs S = .ok ys S2) : nLc vs tg (iS f) t g e S = .ok (.lst ys) S2 := by
  have e1 : iS f e S = .ok (.tmp xs) S := by rw [ap_iS, hf, Res.bind_ok]; rfl
  rw [ap_Lc, e1, Res.bind_ok]
  simp only [Src.items_tmp]
  rw [if_pos (Nat.le_of_lt (sz hl)), q, Res.bind_ok]
theorem lit136 : ∀ p ∈ ([1, 3, 6] : List Int), 0 < p ∧ p.natAbs.log2 < 9000 := by
  intro p hp
  simp only [List.mem_cons, List.not_mem_nil, or_false] at hp
  rcases hp with rfl | rfl | rfl <;> decide +kernel
theorem log_of {b : Int} (h0 : 0 < b) (h : b ≤ 10 ^ 59) : b.natAbs.log2 < 9000 := by
  have h1 : b.natAbs ≤ 10 ^ 59 := by
    have : ((10 ^ 59 : Nat) : Int) = 10 ^ 59 := by decide
    omega
  have h2 : b.natAbs < 2 ^ 200 := Nat.lt_of_le_of_lt h1 (by decide)
  have := (Nat.log2_lt (show b.natAbs ≠ 0 by omega)).mpr h2
  omega
theorem lit_at3 {ms : List Int} {x : Int} {m : Nat} (hm : ms.length = m) (h0 : 0 < m) : ∃ p : Int, p ∈ ms ∧ atI (ms.map D.int) (x % (m : Int)) = some (.int p) := by
  subst hm
  have h1 : 0 ≤ x % (ms.length : Int) := Int.emod_nonneg _ (by omega)
  have h2 : x % (ms.length : Int) < ms.length := Int.emod_lt_of_pos _ (by omega)
  obtain ⟨j, hj⟩ := Int.eq_ofNat_of_zero_le h1
  rw [hj, atI_cast]
  have h3 : j < ms.length := by omega
  exact ⟨ms[j], List.getElem_mem h3, by simp [h3]⟩
theorem table {S : Sto} {k : Nat} {x : Int} (h : k < S.length) (ks : List Int) (hk : ks.length ≤ 6) (far : Bool) : ∃ (many : Int) (t : List (Int × Int)) (y : Int), 1 ≤ many ∧ many ≤ 10 ^ 59 ∧ (far = false → many ≤ 6) ∧ (∀ key ∈ ks, key ∈ t.map (·.1)) ∧ t.length ≤ 12 ∧ (∀ r ∈ t, 0 ≤ r.2 ∧ r.2 < many) ∧ F_law_table [.ref k, .lst (ks.map D.int), .bl far] (Dg S k x) = .ok (tabD (many, t)) (Dg S k y) := by
  obtain ⟨p, hp, ha⟩ := lit_at3 (ms := [1, 3, 6]) (x := x) (m := 3) rfl (by decide)
  have ha' : atI [D.int 1, D.int 3, D.int 6] (x % 3) = some (.int p) := ha
  obtain ⟨p0, pl⟩ := lit136 p hp
  have p6 : p ≤ 6 := by
    simp only [List.mem_cons, List.not_mem_nil, or_false] at hp
    rcases hp with rfl | rfl | rfl <;> decide
  have dA := dig (x := x) (m := 3) h (by decide) (by decide)
  have dB := dig (x := x / 3) (m := p) h p0 pl
  have hA : 0 ≤ x / 3 % p := Int.emod_nonneg _ (by omega)
  have hA2 : x / 3 % p < p := Int.emod_lt_of_pos _ p0
  generalize x / 3 % p = m0 at dB hA hA2
  generalize x / 3 / p = y0 at dB
  -- the bins
  have st : ∃ (many y : Int), 1 ≤ many ∧ many ≤ 10 ^ 59 ∧ (far = false → many ≤ 6) ∧ sIf (tAndD (eTr (eVar 2)) (eTB (e2 (eqD false) (eFn F_law_digit [(eVar 0), (eC (.int 3))]) (eC (.int 1))))) (sSet 3 (e2 addD (eC (.int 1)) (eFn F_law_digit [(eVar 0), (e2 powD (eC (.int 10)) (eC (.int 59)))]))) sNext [some (.ref k), some (.lst (ks.map D.int)), some (.bl far), some (.int (1 + m0)), none, none] (Dg S k y0) = .next [some (.ref k), some (.lst (ks.map D.int)), some (.bl far), some (.int many), none, none] (Dg S k y) := by
    have h59 : (7 : Int) ≤ 10 ^ 59 := by decide
    cases far with
    | false => exact ⟨1 + m0, y0, by omega, by omega, fun _ => by omega, by simp only [goS]⟩
    | true =>
      have dC := dig (x := y0) (m := 3) h (by decide) (by decide)
      by_cases h1 : y0 % 3 = 1
      · have dD := dig (x := y0 / 3) (m := 10 ^ 59) h (by decide) l59
        have b1 : 0 ≤ y0 / 3 % 10 ^ 59 := Int.emod_nonneg _ (by decide)
        have b2 : y0 / 3 % 10 ^ 59 < 10 ^ 59 := Int.emod_lt_of_pos _ (by decide)
        generalize y0 / 3 % 10 ^ 59 = m1 at dD b1 b2
        generalize y0 / 3 / 10 ^ 59 = y1 at dD
        refine ⟨1 + m1, y1, by omega, by omega, (fun z => nomatch z), ?_⟩
        simp only [goS, dC, eqD_int, h1, decide_true, p10_59, dD, addD_int]
      · refine ⟨1 + m0, y0 / 3, by omega, by omega, (fun z => nomatch z), ?_⟩
        simp only [goS, dC, eqD_int, h1, decide_false]
  obtain ⟨many, y1, m1, m2, m3, qs⟩ := st
  -- more keys
  have lcA : ∃ (ms : List Int) (y : Int), ms.length ≤ ks.length ∧ lcD (.nm 5) (.tmp (ks.map D.int)) (tAndD (eTB (e2 (inD true) (e2 addD (eVar 5) (eC (.int 1))) (eVar 1))) (eTB (e2 (eqD false) (eFn F_law_digit [(eVar 0), (eC (.int 4))]) (eC (.int 1))))) (e2 addD (eVar 5) (eC (.int 1))) [some (.ref k), some (.lst (ks.map D.int)), some (.bl far), some (.int many), none, none] (ks.map D.int) (Dg S k y1) = .ok (ms.map D.int) (Dg S k y) := by
    obtain ⟨ds, S', q, ms, y, e1, e2', e3⟩ := lc_inv2 (tg := .nm 5) (t := tAndD (eTB (e2 (inD true) (e2 addD (eVar 5) (eC (.int 1))) (eVar 1))) (eTB (e2 (eqD false) (eFn F_law_digit [(eVar 0), (eC (.int 4))]) (eC (.int 1))))) (f := e2 addD (eVar 5) (eC (.int 1))) (e := [some (.ref k), some (.lst (ks.map D.int)), some (.bl far), some (.int many), none, none]) (ys := ks.map D.int)
      (fun n S' acc => ∃ (ms : List Int) (y : Int), S' = Dg S k y ∧ acc = ms.map D.int ∧ ms.length ≤ n) (ks.map D.int) 0 (Dg S k y1) [] ⟨[], y1, rfl, rfl, Nat.le_refl _⟩ (fun n S' acc z hz ⟨ms, y, e1, e2', e3⟩ => by
        subst e1 e2'
        rw [List.getElem?_map, Option.map_eq_some_iff] at hz
        obtain ⟨key, _, rfl⟩ := hz
        have hin : inD true (.int (key + 1)) (.lst (ks.map D.int)) (Dg S k y) = .ok (.bl (!decide (key + 1 ∈ ks))) (Dg S k y) := inL_ints
        have dE := dig (x := y) (m := 4) h (by decide) (by decide)
        by_cases hm : key + 1 ∈ ks
        · refine ⟨[some (.ref k), some (.lst (ks.map D.int)), some (.bl far), some (.int many), none, some (.int key)], false, Dg S k y, rfl, ?_, (fun z => nomatch z), fun _ => ⟨ms, y, rfl, rfl, by omega⟩⟩
          simp only [goS, addD_int, hin, hm, decide_true, Bool.not_true]
        · refine ⟨[some (.ref k), some (.lst (ks.map D.int)), some (.bl far), some (.int many), none, some (.int key)], decide (y % 4 = 1), Dg S k (y / 4), rfl, ?_, fun _ => ⟨.int (key + 1), Dg S k (y / 4), ?_, ms ++ [key + 1], y / 4, rfl, by rw [List.map_append]; rfl, by rw [List.length_append, List.length_singleton]; omega⟩, fun _ => ⟨ms, y / 4, rfl, rfl, by omega⟩⟩
          · simp only [goS, addD_int, hin, hm, decide_false, Bool.not_false, dE, eqD_int]
          · simp only [goS, addD_int])
    subst e1
    rw [List.nil_append] at e2'
    subst e2'
    exact ⟨ms, y, by simpa using e3, q⟩
  obtain ⟨ms, y2, lm, qA⟩ := lcA
  have nA := nLcS2 (vs := [5]) (tg := .nm 5) (f := eVar 1) (e := [some (.ref k), some (.lst (ks.map D.int)), some (.bl far), some (.int many), none, none]) (S := Dg S k y1) (xs := ks.map D.int) rfl (by rw [List.length_map]; omega) qA
  -- the spots
  generalize hK : sortI (ks ++ ms) = K
  have lK : K.length ≤ 12 := by rw [← hK, (perm_sortI _).length_eq, List.length_append]; omega
  have lcB : ∃ (t : List (Int × Int)) (y : Int), t.map (·.1) = K ∧ (∀ r ∈ t, 0 ≤ r.2 ∧ r.2 < many) ∧ lcD (.nm 5) (.tmp (K.map D.int)) tYesD (eTup [(eVar 5), (eFn F_law_digit [(eVar 0), (eVar 3)])]) [some (.ref k), some (.lst (ks.map D.int)), some (.bl far), some (.int many), some (.lst (ms.map D.int)), none] (K.map D.int) (Dg S k y2) = .ok (t.map rowD) (Dg S k y) := by
    obtain ⟨ds, S', q, t, y, e1, e2', e3, e4⟩ := lc_inv (tg := .nm 5) (f := eTup [(eVar 5), (eFn F_law_digit [(eVar 0), (eVar 3)])]) (e := [some (.ref k), some (.lst (ks.map D.int)), some (.bl far), some (.int many), some (.lst (ms.map D.int)), none]) (ys := K.map D.int)
      (fun n S' acc => ∃ (t : List (Int × Int)) (y : Int), S' = Dg S k y ∧ acc = t.map rowD ∧ t.map (·.1) = K.take n ∧ ∀ r ∈ t, 0 ≤ r.2 ∧ r.2 < many) (K.map D.int) 0 (Dg S k y2) [] ⟨[], y2, rfl, rfl, rfl, fun r hr => absurd hr List.not_mem_nil⟩ (fun n S' acc z hz ⟨t, y, e1, e2', e3, e4⟩ => by
        subst e1 e2'
        rw [List.getElem?_map, Option.map_eq_some_iff] at hz
        obtain ⟨key, hz, rfl⟩ := hz
        rw [Nat.zero_add] at e3 ⊢
        have dE := dig (x := y) (m := many) h (by omega) (log_of (by omega) m2)
        have b1 : 0 ≤ y % many := Int.emod_nonneg _ (by omega)
        have b2 : y % many < many := Int.emod_lt_of_pos _ (by omega)
        refine ⟨[some (.ref k), some (.lst (ks.map D.int)), some (.bl far), some (.int many), some (.lst (ms.map D.int)), some (.int key)], rowD (key, y % many), Dg S k (y / many), rfl, ?_, t ++ [(key, y % many)], y / many, rfl, by rw [List.map_append]; rfl, ?_, fun r hr => ?_⟩
        · simp only [goS, dE]
          rfl
        · rw [List.map_append, e3, List.take_add_one, hz]
          rfl
        · rcases List.mem_append.mp hr with hr | hr
          · exact e4 r hr
          · rw [List.mem_singleton.mp hr]
            exact ⟨b1, b2⟩)
    subst e1
    rw [List.nil_append] at e2'
    subst e2'
    rw [Nat.zero_add, List.length_map, List.take_length] at e3
    exact ⟨t, y, e3, e4, q⟩
  obtain ⟨t, y3, et, bt, qB⟩ := lcB
  have hs : nSort (e2 addD (eVar 1) (eVar 4)) [some (.ref k), some (.lst (ks.map D.int)), some (.bl far), some (.int many), some (.lst (ms.map D.int)), none] (Dg S k y2) = .ok (.lst (K.map D.int)) (Dg S k y2) := by
    rw [← hK]
    refine nSort_ints (d := .lst ((ks ++ ms).map D.int)) ?_ rfl rfl
    simp only [goS]
    rw [addL (by rw [List.length_map, List.length_map]; omega), List.map_append]
  have nB := nLcS2 (vs := [5]) (tg := .nm 5) (f := eAno (nSort (e2 addD (eVar 1) (eVar 4)))) (e := [some (.ref k), some (.lst (ks.map D.int)), some (.bl far), some (.int many), some (.lst (ms.map D.int)), none]) (S := Dg S k y2) (xs := K.map D.int) (by simp only [goS, hs]) (by rw [List.length_map]; omega) qB
  refine ⟨many, t, y3, m1, m2, m3, fun key hkey => by rw [et, ← hK]; exact (perm_sortI _).mem_iff.mpr (List.mem_append_left _ hkey), by have := congrArg List.length et; rw [List.length_map] at this; omega, bt, ?_⟩
  have dA' : F_law_digit [.ref k, .int 3] (Dg S k x) = .ok (.int (x % 3)) (Dg S k (x / 3)) := dA
  simp only [F_law_table, runD, b_law_table, go0, goS, dA', ixD_tup, ha', dB, addD_int]
  have qs' := qs
  simp only [goS, addD_int] at qs'
  rw [qs']
  simp only [goS, nA, nB, tupD_lst]
  exact fin_dg0 h (by
    rw [gnd_tup]
    simp only [gnds_cons, gnds_nil, gnd_int, gnd_tup, Bool.true_and, Bool.and_true]
    exact gnds_map (fun r => rpRow.gnd r) t)
theorem keysof (S : Sto) (rs : List (Int × Int)) (h : rs.length < 64) : Fkeys_of [tpD rowD rs] S = .ok (intsT (sset (rs.map (·.1)))) S := by
  have lc : lcD (.tp [.nm 1, .nm 2]) (.tmp (rs.map rowD)) tYesD (eVar 1) [some (tpD rowD rs), none, none] (rs.map rowD) S = .ok ((rs.map (·.1)).map D.int) S := by
    rw [List.map_map]
    exact lc_all rowD (fun r => D.int r.1) rs fun r _ => ⟨[some (tpD rowD rs), some (.int r.1), some (.int r.2)], rfl, rfl⟩
  have h1 := nLcS_tup (vs := [1, 2]) (f := eVar 0) (e := [some (tpD rowD rs), none, none]) rfl (by simp; omega) lc
  have h2 := nss h1 (by simp; omega)
  simp only [Fkeys_of, runD, bkeys_of, go0, goS, h2, tupD_lst]
  exact fin_same (Rp.int.tp.gnd _)
theorem gndk_dz : ∀ h : List (Int × Int), gndk (dz h) = true
  | [] => rfl
  | x :: h => by
    show (D.gnd (.int x.2) && gndk (dz h)) = true
    rw [gndk_dz h]
    rfl
theorem gnd_dz (h : List (Int × Int)) : (D.dct (dz h)).gnd = true := gndk_dz h
theorem bins_by (S : Sto) (rs t : List (Int × Int)) (many : Int) (hl : rs.length < 64) (hm : ∀ r ∈ rs, r.1 ∈ t.map (·.1)) : Fbins_by [tpD rowD rs, tabD (many, t)] S = .ok (.dct (dz (homeZ t))) S := by
  have ko := keysof S rs hl
  have ix1 : ixD (tabD (many, t)) (.int 1) S = .ok (tpD rowD t) S := rfl
  have lp : ∀ (xs ys : List Int), (∀ k ∈ xs, k ∈ rs.map (·.1)) → forD [3] (.nm 3) (.tmp (ys.map D.int)) bbins_by_1 (xs.map D.int) [some (tpD rowD rs), some (tabD (many, t)), some (.dct (dz (homeZ t))), none] S = .next [some (tpD rowD rs), some (tabD (many, t)), some (.dct (dz (homeZ t))), none] S := by
    intro xs ys
    induction xs with
    | nil => intro _; exact forD_nil trivial
    | cons x xs ih =>
      intro hx
      obtain ⟨r, hr, e⟩ := List.mem_map.mp (hx x List.mem_cons_self)
      have hin : inD true (.int x) (.dct (dz (homeZ t))) S = .ok (.bl false) S := by
        rw [inD_dct (dcOf_dct), home_at (by rw [← e]; exact hm r hr)]
        rfl
      have q : turn [3] (.nm 3) bbins_by_1 (.int x) [some (tpD rowD rs), some (tabD (many, t)), some (.dct (dz (homeZ t))), none] S = .next [some (tpD rowD rs), some (tabD (many, t)), some (.dct (dz (homeZ t))), none] S := by
        simp only [turn, goS, bbins_by_1, hin]
      rw [List.map_cons, forD_cons (src := .tmp _) trivial, q]
      exact ih fun k hk => hx k (List.mem_cons_of_mem _ hk)
  have q := lp (sset (rs.map (·.1))) (sset (rs.map (·.1))) fun k hk => mem_sset.mp hk
  simp only [Fbins_by, runD, bbins_by, go0, goS, ap_nDctP, ix1, dct_rows]
  rw [forS_tup (xs := (sset (rs.map (·.1))).map D.int) (by simp only [goS, ko]; rfl), q]
  simp only [goS]
  exact fin_same (gnd_dz _)
theorem heap (S : Sto) (rs : List (Int × Int)) (hn : rs.length < 1000000) : Fheap [tpD rowD rs] S = .ok (tpD rowD (hp rs)) S := lawheap S rs hn
theorem joined (S : Sto) (xs ys : List (Int × Int)) (h : xs.length + ys.length < 1000000) : Fjoined [tpD rowD xs, tpD rowD ys] S = .ok (tpD rowD (hp (xs ++ ys))) S := by
  simp only [Fjoined, runD, bjoined, go0, goS, addT h, heap S (xs ++ ys) (by rw [List.length_append]; omega)]
  exact fin_same (rpRow.tp.gnd _)
theorem while_go {dead : List Nat} {t : Ev Bool} {body : Stm} {n : Nat} {e e2 : En} {S S1 S2 : Sto} (h : t e S = .ok true S1) (hb : body e S1 = .next e2 S2) : whileN dead t body (n + 1) e S = whileN dead t body n (wipeE e2 dead) S2 := by
  conv => lhs; unfold whileN
  rw [h]
  simp only [hb]
theorem fq_bins_many : ¬ (Str.ofString "bins" = Str.ofString "many") := by decide +kernel
theorem fq_bins_room : ¬ (Str.ofString "bins" = Str.ofString "room") := by decide +kernel
theorem fq_bins_left : ¬ (Str.ofString "bins" = Str.ofString "left") := by decide +kernel
theorem fq_bins_lying : ¬ (Str.ofString "bins" = Str.ofString "lying") := by decide +kernel
theorem fn_many_bins : ((Str.ofString "many") == (Str.ofString "bins")) = false := by decide +kernel
theorem fq_many_room : ¬ (Str.ofString "many" = Str.ofString "room") := by decide +kernel
theorem fq_many_left : ¬ (Str.ofString "many" = Str.ofString "left") := by decide +kernel
theorem fq_many_lying : ¬ (Str.ofString "many" = Str.ofString "lying") := by decide +kernel
theorem fn_room_bins : ((Str.ofString "room") == (Str.ofString "bins")) = false := by decide +kernel
theorem fn_room_many : ((Str.ofString "room") == (Str.ofString "many")) = false := by decide +kernel
theorem fq_room_left : ¬ (Str.ofString "room" = Str.ofString "left") := by decide +kernel
theorem fq_room_lying : ¬ (Str.ofString "room" = Str.ofString "lying") := by decide +kernel
theorem fn_left_bins : ((Str.ofString "left") == (Str.ofString "bins")) = false := by decide +kernel
theorem fn_left_many : ((Str.ofString "left") == (Str.ofString "many")) = false := by decide +kernel
theorem fn_left_room : ((Str.ofString "left") == (Str.ofString "room")) = false := by decide +kernel
theorem fq_left_lying : ¬ (Str.ofString "left" = Str.ofString "lying") := by decide +kernel
theorem fn_lying_bins : ((Str.ofString "lying") == (Str.ofString "bins")) = false := by decide +kernel
theorem fn_lying_many : ((Str.ofString "lying") == (Str.ofString "many")) = false := by decide +kernel
theorem fn_lying_room : ((Str.ofString "lying") == (Str.ofString "room")) = false := by decide +kernel
theorem fn_lying_left : ((Str.ofString "lying") == (Str.ofString "left")) = false := by decide +kernel
theorem fn_out_bins : ((Str.ofString "out") == (Str.ofString "bins")) = false := by decide +kernel
theorem fn_out_many : ((Str.ofString "out") == (Str.ofString "many")) = false := by decide +kernel
theorem fn_out_room : ((Str.ofString "out") == (Str.ofString "room")) = false := by decide +kernel
theorem fn_out_left : ((Str.ofString "out") == (Str.ofString "left")) = false := by decide +kernel
theorem fn_out_lying : ((Str.ofString "out") == (Str.ofString "lying")) = false := by decide +kernel
theorem fm_feed_bins : ((Str.ofString "feed") == (Str.ofString "bins")) = false := by decide +kernel
theorem fm_feed_many : ((Str.ofString "feed") == (Str.ofString "many")) = false := by decide +kernel
theorem fm_feed_room : ((Str.ofString "feed") == (Str.ofString "room")) = false := by decide +kernel
theorem fm_feed_left : ((Str.ofString "feed") == (Str.ofString "left")) = false := by decide +kernel
theorem fm_feed_lying : ((Str.ofString "feed") == (Str.ofString "lying")) = false := by decide +kernel
theorem fm_feed_out : ((Str.ofString "feed") == (Str.ofString "out")) = false := by decide +kernel
theorem fm_waits_bins : ((Str.ofString "waits") == (Str.ofString "bins")) = false := by decide +kernel
theorem fm_waits_many : ((Str.ofString "waits") == (Str.ofString "many")) = false := by decide +kernel
theorem fm_waits_room : ((Str.ofString "waits") == (Str.ofString "room")) = false := by decide +kernel
theorem fm_waits_left : ((Str.ofString "waits") == (Str.ofString "left")) = false := by decide +kernel
theorem fm_waits_lying : ((Str.ofString "waits") == (Str.ofString "lying")) = false := by decide +kernel
theorem fm_waits_out : ((Str.ofString "waits") == (Str.ofString "out")) = false := by decide +kernel
theorem fm_take_bins : ((Str.ofString "take") == (Str.ofString "bins")) = false := by decide +kernel
theorem fm_take_many : ((Str.ofString "take") == (Str.ofString "many")) = false := by decide +kernel
theorem fm_take_room : ((Str.ofString "take") == (Str.ofString "room")) = false := by decide +kernel
theorem fm_take_left : ((Str.ofString "take") == (Str.ofString "left")) = false := by decide +kernel
theorem fm_take_lying : ((Str.ofString "take") == (Str.ofString "lying")) = false := by decide +kernel
theorem fm_take_out : ((Str.ofString "take") == (Str.ofString "out")) = false := by decide +kernel
theorem fm_rest_bins : ((Str.ofString "rest") == (Str.ofString "bins")) = false := by decide +kernel
theorem fm_rest_many : ((Str.ofString "rest") == (Str.ofString "many")) = false := by decide +kernel
theorem fm_rest_room : ((Str.ofString "rest") == (Str.ofString "room")) = false := by decide +kernel
theorem fm_rest_left : ((Str.ofString "rest") == (Str.ofString "left")) = false := by decide +kernel
theorem fm_rest_lying : ((Str.ofString "rest") == (Str.ofString "lying")) = false := by decide +kernel
theorem fm_rest_out : ((Str.ofString "rest") == (Str.ofString "out")) = false := by decide +kernel
theorem fm_lies_bins : ((Str.ofString "lies") == (Str.ofString "bins")) = false := by decide +kernel
theorem fm_lies_many : ((Str.ofString "lies") == (Str.ofString "many")) = false := by decide +kernel
theorem fm_lies_room : ((Str.ofString "lies") == (Str.ofString "room")) = false := by decide +kernel
theorem fm_lies_left : ((Str.ofString "lies") == (Str.ofString "left")) = false := by decide +kernel
theorem fm_lies_lying : ((Str.ofString "lies") == (Str.ofString "lying")) = false := by decide +kernel
theorem fm_lies_out : ((Str.ofString "lies") == (Str.ofString "out")) = false := by decide +kernel
theorem fm_taken_bins : ((Str.ofString "taken") == (Str.ofString "bins")) = false := by decide +kernel
theorem fm_taken_many : ((Str.ofString "taken") == (Str.ofString "many")) = false := by decide +kernel
theorem fm_taken_room : ((Str.ofString "taken") == (Str.ofString "room")) = false := by decide +kernel
theorem fm_taken_left : ((Str.ofString "taken") == (Str.ofString "left")) = false := by decide +kernel
theorem fm_taken_lying : ((Str.ofString "taken") == (Str.ofString "lying")) = false := by decide +kernel
theorem fm_taken_out : ((Str.ofString "taken") == (Str.ofString "out")) = false := by decide +kernel
theorem fm_comes_bins : ((Str.ofString "comes") == (Str.ofString "bins")) = false := by decide +kernel
theorem fm_comes_many : ((Str.ofString "comes") == (Str.ofString "many")) = false := by decide +kernel
theorem fm_comes_room : ((Str.ofString "comes") == (Str.ofString "room")) = false := by decide +kernel
theorem fm_comes_left : ((Str.ofString "comes") == (Str.ofString "left")) = false := by decide +kernel
theorem fm_comes_lying : ((Str.ofString "comes") == (Str.ofString "lying")) = false := by decide +kernel
theorem fm_comes_out : ((Str.ofString "comes") == (Str.ofString "out")) = false := by decide +kernel
theorem fm_free_bins : ((Str.ofString "free") == (Str.ofString "bins")) = false := by decide +kernel
theorem fm_free_many : ((Str.ofString "free") == (Str.ofString "many")) = false := by decide +kernel
theorem fm_free_room : ((Str.ofString "free") == (Str.ofString "room")) = false := by decide +kernel
theorem fm_free_left : ((Str.ofString "free") == (Str.ofString "left")) = false := by decide +kernel
theorem fm_free_lying : ((Str.ofString "free") == (Str.ofString "lying")) = false := by decide +kernel
theorem fm_free_out : ((Str.ofString "free") == (Str.ofString "out")) = false := by decide +kernel
noncomputable abbrev Rw : Type := List (Int × Int)
structure Fc where
  h : Rw
  many : Int
  room : Int
structure FS where
  left : Rw
  ly : List (Int × Rw)
  out : List (Int × Rw)
noncomputable def frF (c : Fc) (k : Nat) (left : Rw) : List (Str × D) := [("bins", .dct (dz c.h)), ("many", .int c.many), ("room", .int c.room), ("left", tpD rowD left), ("lying", .ref (k + 1)), ("out", .ref (k + 2))]
noncomputable def drw (d : List (Int × Rw)) : DO := .dct (dgz (tpD rowD) d)
noncomputable def frO (c : Fc) (k : Nat) (s : FS) : Sto := [.ins "Frame" (frF c k s.left), drw s.ly, drw s.out]
noncomputable def Wf (c : Fc) (A : Sto) (s : FS) (R : Sto) : Sto := A ++ (frO c A.length s ++ R)
section
variable {c : Fc} {A R : Sto} {s : FS}
theorem Wf_len : (Wf c A s R).length = A.length + (3 + R.length) := by simp [Wf, frO]; omega
theorem Wf_0 : (Wf c A s R)[A.length]? = some (.ins "Frame" (frF c A.length s.left)) := by simp [Wf, frO]
theorem Wf_1 : (Wf c A s R)[A.length + 1]? = some (drw s.ly) := by
  unfold Wf
  rw [List.getElem?_append_right (by omega), show A.length + 1 - A.length = 1 by omega]
  rfl
theorem Wf_2 : (Wf c A s R)[A.length + 2]? = some (drw s.out) := by
  unfold Wf
  rw [List.getElem?_append_right (by omega), show A.length + 2 - A.length = 2 by omega]
  rfl
theorem Wf_set0 (l : Rw) : (Wf c A s R).set A.length (.ins "Frame" (frF c A.length l)) = Wf c A ⟨l, s.ly, s.out⟩ R := by
  unfold Wf
  rw [List.set_append_right _ _ (by omega), show A.length - A.length = 0 by omega]
  rfl
theorem Wf_set1 (d : List (Int × Rw)) : (Wf c A s R).set (A.length + 1) (drw d) = Wf c A ⟨s.left, d, s.out⟩ R := by
  unfold Wf
  rw [List.set_append_right _ _ (by omega), show A.length + 1 - A.length = 1 by omega]
  rfl
theorem Wf_set2 (d : List (Int × Rw)) : (Wf c A s R).set (A.length + 2) (drw d) = Wf c A ⟨s.left, s.ly, d⟩ R := by
  unfold Wf
  rw [List.set_append_right _ _ (by omega), show A.length + 2 - A.length = 2 by omega]
  rfl
theorem Wf_app {T : Sto} : Wf c A s R ++ T = Wf c A s (R ++ T) := by
  unfold Wf
  rw [List.append_assoc, List.append_assoc]
theorem Wf_beh (j : Nat) : (Wf c A s R)[A.length + 3 + j]? = R[j]? := by
  unfold Wf
  rw [List.getElem?_append_right (by omega), List.getElem?_append_right (by simp [frO]; omega)]
  congr 1
  simp [frO]
  omega
theorem Wf_setB (j : Nat) (o : DO) : (Wf c A s R).set (A.length + 3 + j) o = Wf c A s (R.set j o) := by
  unfold Wf
  rw [List.set_append_right _ _ (by omega), List.set_append_right _ _ (by simp [frO]; omega)]
  congr 3
  simp [frO]
  omega
theorem gnd_rows (l : Rw) : (tpD rowD l).gnd = true := rpRow.tp.gnd l
theorem gndk_drw : ∀ d : List (Int × Rw), gndk (dgz (tpD rowD) d) = true
  | [] => rfl
  | p :: d => by
    show ((tpD rowD p.2).gnd && gndk (dgz (tpD rowD) d)) = true
    rw [gnd_rows, gndk_drw d]
    rfl
theorem bel_drw (n : Nat) (d : List (Int × Rw)) : (drw d).bel n = true := gndk_below n _ (gndk_drw d)
theorem bel_frF (n k : Nat) (l : Rw) (h : k + 2 < n) : (DO.ins "Frame" (frF c k l)).bel n = true := by
  have h1 : belowk n (dz c.h) = true := gnd_below n _ (gnd_dz c.h)
  have h2 : (tpD rowD l).bel n = true := gnd_below n _ (gnd_rows l)
  simp only [DO.bel, frF, List.all_cons, List.all_nil, h2]
  simp only [D.bel, h1, Bool.true_and, Bool.and_true]
  rw [decide_eq_true (by omega), decide_eq_true (by omega)]
  rfl
theorem Wf_clo {s' : FS} : Clo (Wf c A s R) (Wf c A s' R) := by
  refine ⟨by rw [Wf_len, Wf_len]; exact Nat.le_refl _, fun j o hj hs => ?_⟩
  by_cases h0 : j < A.length
  · left
    rw [← hs]
    unfold Wf
    rw [List.getElem?_append_left h0, List.getElem?_append_left h0]
  · by_cases h1 : j < A.length + 3
    · right
      rw [Wf_len] at hj ⊢
      have : j = A.length ∨ j = A.length + 1 ∨ j = A.length + 2 := by omega
      rcases this with rfl | rfl | rfl
      · rw [Wf_0] at hs; cases hs; exact bel_frF _ _ _ (by omega)
      · rw [Wf_1] at hs; cases hs; exact bel_drw _ _
      · rw [Wf_2] at hs; cases hs; exact bel_drw _ _
    · left
      have : j = A.length + 3 + (j - (A.length + 3)) := by omega
      rw [this, Wf_beh] at hs ⊢
      exact hs
theorem fin_Wf {s' : FS} {d : D} (h : d.gnd = true) : fin .frz (Wf c A s R) d (Wf c A s' R) = .ok d (Wf c A s' R) := by
  rw [fin_frz Wf_clo h, Wf_len, List.take_of_length_le (by rw [Wf_len]; omega)]
theorem exc_Wf {s' : FS} {x : Str} {e : En} : retD .frz (Wf c A s R) (.exc x e (Wf c A s' R)) = .exc x (Wf c A s' R) := by
  show (if Clo (Wf c A s R) (Wf c A s' R) then (Res.exc x ((Wf c A s' R).take (Wf c A s R).length) : Res D) else .bad) = _
  rw [if_pos Wf_clo, Wf_len, List.take_of_length_le (by rw [Wf_len]; omega)]
theorem lk_bins {k : Nat} {l : Rw} : (frF c k l).lookup ("bins" : Str) = some (.dct (dz c.h)) := by simp only [frF, List.lookup_cons, beq_self_eq_true]
theorem lk_many {k : Nat} {l : Rw} : (frF c k l).lookup ("many" : Str) = some (.int c.many) := by simp only [frF, List.lookup_cons, fn_many_bins, beq_self_eq_true]
theorem lk_room {k : Nat} {l : Rw} : (frF c k l).lookup ("room" : Str) = some (.int c.room) := by simp only [frF, List.lookup_cons, fn_room_bins, fn_room_many, beq_self_eq_true]
theorem lk_left {k : Nat} {l : Rw} : (frF c k l).lookup ("left" : Str) = some (tpD rowD l) := by simp only [frF, List.lookup_cons, fn_left_bins, fn_left_many, fn_left_room, beq_self_eq_true]
theorem lk_lying {k : Nat} {l : Rw} : (frF c k l).lookup ("lying" : Str) = some (.ref (k + 1)) := by simp only [frF, List.lookup_cons, fn_lying_bins, fn_lying_many, fn_lying_room, fn_lying_left, beq_self_eq_true]
theorem lk_out {k : Nat} {l : Rw} : (frF c k l).lookup ("out" : Str) = some (.ref (k + 2)) := by simp only [frF, List.lookup_cons, fn_out_bins, fn_out_many, fn_out_room, fn_out_left, fn_out_lying, beq_self_eq_true]
theorem pf_left {k : Nat} {l l' : Rw} : putFD "left" (tpD rowD l') (frF c k l) = frF c k l' := by simp only [frF, putFD, fq_bins_left, fq_many_left, fq_room_left, if_false, if_true]
theorem fld_bins : fldD "Frame" "bins" (.ref A.length) (Wf c A s R) = .ok (.dct (dz c.h)) (Wf c A s R) := by rw [fldD_ref Wf_0, lk_bins]; rfl
theorem fld_many : fldD "Frame" "many" (.ref A.length) (Wf c A s R) = .ok (.int c.many) (Wf c A s R) := by rw [fldD_ref Wf_0, lk_many]; rfl
theorem fld_room : fldD "Frame" "room" (.ref A.length) (Wf c A s R) = .ok (.int c.room) (Wf c A s R) := by rw [fldD_ref Wf_0, lk_room]; rfl
theorem fld_left : fldD "Frame" "left" (.ref A.length) (Wf c A s R) = .ok (tpD rowD s.left) (Wf c A s R) := by rw [fldD_ref Wf_0, lk_left]; rfl
theorem fld_lying : fldD "Frame" "lying" (.ref A.length) (Wf c A s R) = .ok (.ref (A.length + 1)) (Wf c A s R) := by rw [fldD_ref Wf_0, lk_lying]; rfl
theorem fld_out : fldD "Frame" "out" (.ref A.length) (Wf c A s R) = .ok (.ref (A.length + 2)) (Wf c A s R) := by rw [fldD_ref Wf_0, lk_out]; rfl
theorem st_left (l : Rw) : stF "Frame" "left" (.ref A.length) (tpD rowD l) (Wf c A s R) = some (Wf c A ⟨l, s.ly, s.out⟩ R) := by
  rw [stF_ref Wf_0 (by show 6 < 1000; decide), pf_left, Wf_set0]
noncomputable def gl (d : List (Int × Rw)) (n : Int) : Rw := (gt d n).getD []
theorem gl_pt (d : List (Int × Rw)) (k : Int) (v : Rw) (j : Int) : gl (pt d k v) j = if j = k then v else gl d j := by
  unfold gl
  rw [gt_put]
  split <;> rfl
theorem get_drw {n : Nat} {S : Sto} {d : List (Int × Rw)} (h : S[n]? = some (drw d)) (i : Int) : getD2 (.ref n) (.int i) (.tup []) S = .ok (tpD rowD (gl d i)) S := by
  rw [getD2_ref h, dgz_get]
  unfold gl
  cases gt d i <;> rfl
theorem dc_drw {n : Nat} {S : Sto} {d : List (Int × Rw)} (h : S[n]? = some (drw d)) : (dcOf S (.ref n)).isSome = true := by
  rw [dcOf_ref h]
  rfl
end
section
variable {c : Fc} {A R : Sto} {s : FS}
theorem is_feed : isM "Frame" "feed" (.ref A.length) (Wf c A s R) = true := isM_ref Wf_0 (by simp only [frF, List.lookup_cons, List.lookup_nil, fm_feed_bins, fm_feed_many, fm_feed_room, fm_feed_left, fm_feed_lying, fm_feed_out])
theorem is_waits : isM "Frame" "waits" (.ref A.length) (Wf c A s R) = true := isM_ref Wf_0 (by simp only [frF, List.lookup_cons, List.lookup_nil, fm_waits_bins, fm_waits_many, fm_waits_room, fm_waits_left, fm_waits_lying, fm_waits_out])
theorem is_take : isM "Frame" "take" (.ref A.length) (Wf c A s R) = true := isM_ref Wf_0 (by simp only [frF, List.lookup_cons, List.lookup_nil, fm_take_bins, fm_take_many, fm_take_room, fm_take_left, fm_take_lying, fm_take_out])
theorem is_rest : isM "Frame" "rest" (.ref A.length) (Wf c A s R) = true := isM_ref Wf_0 (by simp only [frF, List.lookup_cons, List.lookup_nil, fm_rest_bins, fm_rest_many, fm_rest_room, fm_rest_left, fm_rest_lying, fm_rest_out])
theorem is_lies : isM "Frame" "lies" (.ref A.length) (Wf c A s R) = true := isM_ref Wf_0 (by simp only [frF, List.lookup_cons, List.lookup_nil, fm_lies_bins, fm_lies_many, fm_lies_room, fm_lies_left, fm_lies_lying, fm_lies_out])
theorem is_taken : isM "Frame" "taken" (.ref A.length) (Wf c A s R) = true := isM_ref Wf_0 (by simp only [frF, List.lookup_cons, List.lookup_nil, fm_taken_bins, fm_taken_many, fm_taken_room, fm_taken_left, fm_taken_lying, fm_taken_out])
theorem is_comes : isM "Frame" "comes" (.ref A.length) (Wf c A s R) = true := isM_ref Wf_0 (by simp only [frF, List.lookup_cons, List.lookup_nil, fm_comes_bins, fm_comes_many, fm_comes_room, fm_comes_left, fm_comes_lying, fm_comes_out])
theorem is_free : isM "Frame" "free" (.ref A.length) (Wf c A s R) = true := isM_ref Wf_0 (by simp only [frF, List.lookup_cons, List.lookup_nil, fm_free_bins, fm_free_many, fm_free_room, fm_free_left, fm_free_lying, fm_free_out])
end
noncomputable def tot (rs : Rw) : Int := (rs.map (·.2)).sum
theorem tot_nil : tot [] = 0 := rfl
theorem tot_cons (r : Int × Int) (rs : Rw) : tot (r :: rs) = r.2 + tot rs := by simp [tot]
theorem tot_app (xs ys : Rw) : tot (xs ++ ys) = tot xs + tot ys := by simp [tot]
theorem letters_in (S : Sto) (rs : Rw) (h : rs.length < 1000000) : Fletters_in [tpD rowD rs] S = .ok (.int (tot rs)) S := by
  have lc : lcD (.tp [.nm 1, .nm 2]) (.tmp (rs.map rowD)) tYesD (eVar 2) [some (tpD rowD rs), none, none] (rs.map rowD) S = .ok ((rs.map (·.2)).map D.int) S := by
    rw [List.map_map]
    exact lc_all (tg := .tp [.nm 1, .nm 2]) (f := eVar 2) (e := [some (tpD rowD rs), none, none]) (S := S) (ys := rs.map rowD) rowD (fun r => D.int r.2) rs fun r _ => ⟨[some (tpD rowD rs), some (.int r.1), some (.int r.2)], rfl, rfl⟩
  have n1 := nLcS_tup (vs := [1, 2]) (tg := .tp [.nm 1, .nm 2]) (f := eVar 0) (e := [some (tpD rowD rs), none, none]) (S := S) (xs := rs.map rowD) rfl (by rw [List.length_map]; omega) lc
  simp only [Fletters_in, runD, bletters_in, go0, goS, n1, intsD_map]
  exact fin_same rfl
section
variable {c : Fc} {A R : Sto} {s : FS}
theorem free_is (n : Int) (h : (gl s.ly n).length < 1000000) : FFrame_free [.ref A.length, .int n] (Wf c A s R) = .ok (.int (c.room - tot (gl s.ly n))) (Wf c A s R) := by
  have g := get_drw (Wf_1 (c := c) (A := A) (s := s) (R := R)) n
  have d := dc_drw (Wf_1 (c := c) (A := A) (s := s) (R := R))
  have li := letters_in (Wf c A s R) (gl s.ly n) h
  simp only [FFrame_free, runD, bFrame_free, go0, goS, fld_room, fld_lying, ap_Get, d, g, li, if_true, subD_i]
  exact fin_Wf rfl
noncomputable def bO (c : Fc) (k : Int) : Int := (getZ c.h k).getD 0
/-- the rows in the table -/
noncomputable def KeysIn (c : Fc) (l : Rw) : Prop := ∀ r ∈ l, (getZ c.h r.1).isSome = true
theorem bins_at {k : Int} (h : (getZ c.h k).isSome = true) : ixD (.dct (dz c.h)) (.int k) (Wf c A s R) = .ok (.int (bO c k)) (Wf c A s R) := by
  obtain ⟨v, hv⟩ := Option.isSome_iff_exists.mp h
  rw [ixD_dct dcOf_dct hv]
  unfold bO
  rw [hv]
  rfl
/-- one turn of feed -/
noncomputable def moreF (c : Fc) (n : Int) (s : FS) (came : Int) (k m : Int) : Int := minI (minI m (c.room - tot (gl s.ly (bO c k)))) (n - came)
noncomputable def nxF (c : Fc) (s : FS) (k m : Int) (r : Rw) (x : Int) : FS := ⟨hp ((k, m - x) :: r), pt s.ly (bO c k) (hp (gl s.ly (bO c k) ++ [(k, x)])), s.out⟩
noncomputable def feE (n came : Int) : En := [some (.ref A.length), some (.int n), some (.int came), none, none, none, none]
theorem fe_test (n came : Int) : (tAndD (eTB (e2 (eqD true) (e1 (fldD "Frame" "left") (eVar 0)) (eTup []))) (eTB (e2 ltD (eVar 2) (eVar 1)))) (feE (A := A) n came) (Wf c A s R) = .ok (!decide (s.left = []) && decide (came < n)) (Wf c A s R) := by
  have e := rpRow.tp.ne (by decide) s.left [] (Wf c A s R)
  have e' : eqD true (tpD rowD s.left) (.tup []) (Wf c A s R) = .ok (.bl (!decide (s.left = []))) (Wf c A s R) := e
  by_cases h : s.left = []
  · have p := decide_eq_true h
    simp only [feE, goS, fld_left, e', p, Bool.not_true, Bool.false_eq_true, if_false, Bool.false_and]
  · have p := decide_eq_false h
    simp only [feE, goS, fld_left, e', p, Bool.not_false, if_true, ltD_i, Bool.true_and]
theorem fe_asg (k m n came : Int) (r : Rw) (S : Sto) (o : D) : bindT (.tp [.nm 3, .nm 4]) (rowD (k, m)) (feE (A := A) n came) = some [some (.ref A.length), some (.int n), some (.int came), some (.int k), some (.int m), none, none] := rfl
theorem left_0 (k m : Int) (r : Rw) (S : Sto) : ixD (tpD rowD ((k, m) :: r)) (.int 0) S = .ok (rowD (k, m)) S := by
  show opt (atI _ 0) S = _
  rw [atI_0]
  rfl
theorem left_tl (k m : Int) (r : Rw) (S : Sto) : slD (tpD rowD ((k, m) :: r)) (some 1) none S = .ok (tpD rowD r) S := by
  show Res.ok (D.tup (cutL _ _ _)) S = _
  rw [show (1 : Int) = ((1 : Nat) : Int) from rfl, cut_from]
  rfl
theorem one_row (k m : Int) : D.tup [.tup [.int k, .int m]] = tpD rowD [(k, m)] := rfl
theorem st_ly (n : Int) (v : Rw) (h : s.ly.length < 1000000) : stD (.ref (A.length + 1)) (.int n) (tpD rowD v) (Wf c A s R) = some (Wf c A ⟨s.left, pt s.ly n v, s.out⟩ R) := by
  rw [stD_dgz Wf_1 h]
  show some ((Wf c A s R).set (A.length + 1) (drw (pt s.ly n v))) = _
  rw [Wf_set1]
theorem st_out (n : Int) (v : Rw) (h : s.out.length < 1000000) : stD (.ref (A.length + 2)) (.int n) (tpD rowD v) (Wf c A s R) = some (Wf c A ⟨s.left, s.ly, pt s.out n v⟩ R) := by
  rw [stD_dgz Wf_2 h]
  show some ((Wf c A s R).set (A.length + 2) (drw (pt s.out n v))) = _
  rw [Wf_set2]
theorem fe_turn (n came k m : Int) (r : Rw) (hl : s.left = (k, m) :: r) (hk : (getZ c.h k).isSome = true) (h1 : (gl s.ly (bO c k)).length < 900000) (h2 : s.ly.length < 900000) (h3 : r.length < 900000) :
    bFrame_feed_1 (feE (A := A) n came) (Wf c A s R) = if moreF c n s came k m = 0 then .ret (.int came) (Wf c A s R) else
      .next [some (.ref A.length), some (.int n), some (.int (came + moreF c n s came k m)), some (.int k), some (.int m), some (.int (bO c k)), some (.int (moreF c n s came k m))] (Wf c A (nxF c s k m r (moreF c n s came k m)) R) := by
  have fr := free_is (c := c) (A := A) (R := R) (s := s) (bO c k) (by omega)
  have g := get_drw (Wf_1 (c := c) (A := A) (s := s) (R := R)) (bO c k)
  have d := dc_drw (Wf_1 (c := c) (A := A) (s := s) (R := R))
  have bn := bins_at (A := A) (R := R) (s := s) hk
  have l0 := left_0 k m r (Wf c A s R)
  have fl := fld_left (c := c) (A := A) (R := R) (s := s)
  rw [hl] at fl
  have as := fe_asg (A := A) k m n came r (Wf c A s R) .non
  generalize hx : moreF c n s came k m = x
  have hx' : minI (minI m (c.room - tot (gl s.ly (bO c k)))) (n - came) = x := hx
  by_cases h0 : x = 0
  · have p := decide_eq_true h0
    rw [if_pos h0]
    rw [bFrame_feed_1, ap_Seq, ap_Asg]
    simp only [goS, feE, fl, l0]
    simp only [feE] at as
    rw [as]
    simp only [goS, fld_bins, bn, ap_Meth, is_free, if_true, fr, subD_i, ii3_ap, hx', eqD_int, p]
  · have p := decide_eq_false h0
    rw [if_neg h0]
    have jn := joined (Wf c A s R) (gl s.ly (bO c k)) [(k, x)] (by simp; omega)
    have sl := st_ly (c := c) (A := A) (R := R) (s := s) (bO c k) (hp (gl s.ly (bO c k) ++ [(k, x)])) (by omega)
    have fl2 := fld_left (c := c) (A := A) (R := R) (s := ⟨s.left, pt s.ly (bO c k) (hp (gl s.ly (bO c k) ++ [(k, x)])), s.out⟩)
    simp only [hl] at fl2 sl
    have tl := left_tl k m r (Wf c A ⟨(k, m) :: r, pt s.ly (bO c k) (hp (gl s.ly (bO c k) ++ [(k, x)])), s.out⟩ R)
    have ad : addD (tpD rowD [(k, m - x)]) (tpD rowD r) (Wf c A ⟨(k, m) :: r, pt s.ly (bO c k) (hp (gl s.ly (bO c k) ++ [(k, x)])), s.out⟩ R) = .ok (tpD rowD ((k, m - x) :: r)) (Wf c A ⟨(k, m) :: r, pt s.ly (bO c k) (hp (gl s.ly (bO c k) ++ [(k, x)])), s.out⟩ R) := addT (by simp; omega)
    have hp1 := heap (Wf c A ⟨(k, m) :: r, pt s.ly (bO c k) (hp (gl s.ly (bO c k) ++ [(k, x)])), s.out⟩ R) ((k, m - x) :: r) (by simp; omega)
    have sl2 := st_left (c := c) (A := A) (R := R) (s := ⟨(k, m) :: r, pt s.ly (bO c k) (hp (gl s.ly (bO c k) ++ [(k, x)])), s.out⟩) (hp ((k, m - x) :: r))
    rw [bFrame_feed_1, ap_Seq, ap_Asg]
    simp only [goS, feE, fl, l0]
    simp only [feE] at as
    rw [as]
    simp only [goS, fld_bins, bn, ap_Meth, is_free, if_true, fr, subD_i, ii3_ap, hx', eqD_int, p, Bool.false_eq_true, if_false, fld_lying, ap_Get, d, g, one_row, jn, sl, ap_Fl, fl2, tl, ad, hp1, sl2, intD_int]
    rfl
end
noncomputable def fdS (c : Fc) (n : Int) (p : FS × Int) : Option (FS × Int) := match p.1.left with
  | [] => none
  | (k, m) :: r => if p.2 < n then (if moreF c n p.1 p.2 k m = 0 then none else some (nxF c p.1 k m r (moreF c n p.1 p.2 k m), p.2 + moreF c n p.1 p.2 k m)) else none
noncomputable def fdN (c : Fc) (n : Int) : Nat → FS × Int → FS × Int
  | 0, p => p
  | f + 1, p => match fdS c n p with
    | none => p
    | some q => fdN c n f q
/-- what holds of a frame at all times; b bounds its rows -/
structure FrI (c : Fc) (b : Nat) (s : FS) : Prop where
  hl : Heap s.left
  ks : KeysIn c s.left
  hy : ∀ n, Heap (gl s.ly n)
  ho : ∀ n, Heap (gl s.out n)
  rm : ∀ n, tot (gl s.ly n) ≤ c.room
  nd : (s.ly.map (·.1)).Nodup
  len : ∀ n, (gl s.out n).length + (gl s.ly n).length + s.left.length ≤ b
  kl : s.ly.length + s.left.length ≤ b
  ko : s.out.length ≤ b
theorem Heap.pos {f : Rw} (h : Heap f) : ∀ r ∈ f, 0 < r.2 := fun r hr => by
  obtain ⟨g, t, e⟩ := List.append_of_mem hr
  exact (h g r t e).1
theorem Heap.tl {r : Int × Int} {f : Rw} (h : Heap (r :: f)) : Heap f := fun g x t e => by
  have := h (r :: g) x t (by rw [e]; rfl)
  refine ⟨this.1, fun l hl => this.2 l ?_⟩
  cases g with
  | nil => cases hl
  | cons y g => rw [List.getLast?_cons_cons]; exact hl
theorem tot_nn {f : Rw} (h : ∀ r ∈ f, 0 < r.2) : 0 ≤ tot f := by
  induction f with
  | nil => exact Int.le_refl _
  | cons r f ih =>
    rw [tot_cons]
    have := h r List.mem_cons_self
    have := ih fun x hx => h x (List.mem_cons_of_mem _ hx)
    omega
theorem hp_le (f : Rw) (r : Int × Int) (hf : Heap f) : (hp (f ++ [r])).length ≤ f.length + 1 := by
  have := hp_len (f ++ [r])
  simpa using this
theorem hpStep_tot (f : Rw) (r : Int × Int) (h : 0 ≤ r.2) : tot (hpStep f r) = tot f + r.2 := by
  unfold hpStep
  by_cases h0 : 0 < r.2
  · rw [if_pos h0]
    rcases List.eq_nil_or_concat f with e | ⟨g, y, e⟩
    · subst e
      simp [tot]
    · rw [List.concat_eq_append] at e
      subst e
      rw [List.getLast?_concat]
      simp only
      by_cases hk : y.1 = r.1
      · rw [if_pos hk, List.dropLast_concat, tot_app, tot_app, tot_cons, tot_cons, tot_nil]
        simp only
        omega
      · rw [if_neg hk, tot_app, tot_app, tot_cons, tot_cons, tot_nil]
        omega
  · rw [if_neg h0]
    omega
theorem fold_tot : ∀ (rs f : Rw), (∀ r ∈ rs, 0 ≤ r.2) → tot (rs.foldl hpStep f) = tot f + tot rs
  | [], f, _ => by rw [tot_nil]; simp
  | r :: rs, f, h => by
    rw [List.foldl_cons, fold_tot rs _ fun x hx => h x (List.mem_cons_of_mem _ hx), hpStep_tot f r (h r List.mem_cons_self), tot_cons]
    omega
theorem hp_tot (rs : Rw) (h : ∀ r ∈ rs, 0 ≤ r.2) : tot (hp rs) = tot rs := by
  unfold hp
  rw [fold_tot rs [] h, tot_nil]
  omega
theorem hp_keys : ∀ (rs f : Rw) (r : Int × Int), r ∈ rs.foldl hpStep f → ∃ q ∈ rs ++ f, q.1 = r.1
  | [], f, r, h => ⟨r, by simpa using h, rfl⟩
  | x :: rs, f, r, h => by
    rw [List.foldl_cons] at h
    obtain ⟨q, hq, e⟩ := hp_keys rs _ r h
    rcases List.mem_append.mp hq with hq | hq
    · exact ⟨q, by simp [hq], e⟩
    · unfold hpStep at hq
      by_cases h0 : 0 < x.2
      · rw [if_pos h0] at hq
        rcases List.eq_nil_or_concat f with ef | ⟨g, y, ef⟩
        · subst ef
          have : q = x := by simpa using hq
          exact ⟨x, by simp, by rw [← this]; exact e⟩
        · rw [List.concat_eq_append] at ef
          subst ef
          rw [List.getLast?_concat] at hq
          simp only at hq
          by_cases hk : y.1 = x.1
          · rw [if_pos hk, List.dropLast_concat] at hq
            rcases List.mem_append.mp hq with hq | hq
            · exact ⟨q, by simp [hq], e⟩
            · have : q = (x.1, y.2 + x.2) := by simpa [hk] using hq
              exact ⟨x, by simp, by rw [← e, this]⟩
          · rw [if_neg hk] at hq
            rcases List.mem_append.mp hq with hq | hq
            · exact ⟨q, by simp only [List.mem_append]; exact .inr (List.mem_append.mp hq), e⟩
            · have : q = x := by simpa using hq
              exact ⟨x, by simp, by rw [← this]; exact e⟩
      · rw [if_neg h0] at hq
        exact ⟨q, by simp [hq], e⟩
theorem fdS_some {c : Fc} {n : Int} {s : FS} {came : Int} {q : FS × Int} (h : fdS c n (s, came) = some q) : ∃ k m r, s.left = (k, m) :: r ∧ came < n ∧ moreF c n s came k m ≠ 0 ∧ q = (nxF c s k m r (moreF c n s came k m), came + moreF c n s came k m) := by
  unfold fdS at h
  simp only at h
  cases hl : s.left with
  | nil => rw [hl] at h; cases h
  | cons x r =>
    obtain ⟨k, m⟩ := x
    rw [hl] at h
    simp only at h
    by_cases h1 : came < n
    · rw [if_pos h1] at h
      by_cases h2 : moreF c n s came k m = 0
      · rw [if_pos h2] at h; cases h
      · rw [if_neg h2] at h
        cases h
        exact ⟨k, m, r, rfl, h1, h2, rfl⟩
    · rw [if_neg h1] at h; cases h
theorem minI_le (i j : Int) : minI i j ≤ i ∧ minI i j ≤ j ∧ (minI i j = i ∨ minI i j = j) := by
  unfold minI
  split <;> omega
theorem more_b {c : Fc} {b : Nat} {n : Int} {s : FS} (I : FrI c b s) {came k m : Int} {r : Rw} (hl : s.left = (k, m) :: r) (h : came < n) : 0 ≤ moreF c n s came k m ∧ moreF c n s came k m ≤ m ∧ moreF c n s came k m ≤ c.room - tot (gl s.ly (bO c k)) ∧ moreF c n s came k m ≤ n - came ∧
    (moreF c n s came k m = m ∨ moreF c n s came k m = c.room - tot (gl s.ly (bO c k)) ∨ moreF c n s came k m = n - came) := by
  have m0 := I.hl.pos (k, m) (by rw [hl]; exact List.mem_cons_self)
  have r0 := I.rm (bO c k)
  simp only at m0
  unfold moreF
  have a := minI_le m (c.room - tot (gl s.ly (bO c k)))
  have b' := minI_le (minI m (c.room - tot (gl s.ly (bO c k)))) (n - came)
  omega
/-- a turn keeps what holds; its rows: one more, then the next turn comes to an end -/
theorem FrI.next {c : Fc} {b : Nat} {n : Int} {s : FS} (I : FrI c b s) {came : Int} {k m : Int} {r : Rw} (hl : s.left = (k, m) :: r) (h : came < n) (h0 : moreF c n s came k m ≠ 0) :
    FrI c (if moreF c n s came k m = m then b else b + 1) (nxF c s k m r (moreF c n s came k m)) ∧ (tot (nxF c s k m r (moreF c n s came k m)).left).toNat < (tot s.left).toNat := by
  obtain ⟨x0, x1, x2, x3, x4⟩ := more_b I hl h
  generalize moreF c n s came k m = x at *
  have hm := I.hl.pos (k, m) (by rw [hl]; exact List.mem_cons_self)
  simp only at hm
  have hr := (by rw [← hl]; exact I.hl : Heap ((k, m) :: r)).tl
  have rp := hr.pos
  have tr := tot_nn rp
  have nn : ∀ q ∈ (k, m - x) :: r, 0 ≤ q.2 := fun q hq => by
    rcases List.mem_cons.mp hq with rfl | hq
    · simp only; omega
    · exact Int.le_of_lt (rp q hq)
  have tl : tot (nxF c s k m r x).left = tot s.left - x := by
    show tot (hp ((k, m - x) :: r)) = _
    rw [hp_tot _ nn, hl, tot_cons, tot_cons]
    simp only
    omega
  have ll : (nxF c s k m r x).left.length + (if x = m then 1 else 0) ≤ s.left.length := by
    show (hp ((k, m - x) :: r)).length + _ ≤ _
    rw [hl, List.length_cons]
    by_cases hx : x = m
    · rw [if_pos hx]
      have e : hp ((k, m - x) :: r) = hp r := by
        unfold hp
        rw [List.foldl_cons]
        congr 1
        unfold hpStep
        rw [if_neg (by simp only; omega)]
      rw [e]
      have := hp_len r
      omega
    · rw [if_neg hx]
      have := hp_len ((k, m - x) :: r)
      rw [List.length_cons] at this
      omega
  have gly : ∀ j, gl (nxF c s k m r x).ly j = if j = bO c k then hp (gl s.ly (bO c k) ++ [(k, x)]) else gl s.ly j := fun j => gl_pt _ _ _ _
  have nn2 : ∀ q ∈ gl s.ly (bO c k) ++ [(k, x)], 0 ≤ q.2 := fun q hq => by
    rcases List.mem_append.mp hq with hq | hq
    · exact Int.le_of_lt ((I.hy _).pos q hq)
    · rw [List.mem_singleton.mp hq]; exact x0
  refine ⟨⟨hp_heap _, fun q hq => ?_, fun j => ?_, I.ho, fun j => ?_, pt_nodup I.nd _ _, fun j => ?_, ?_, ?_⟩, ?_⟩
  · obtain ⟨q', hq', e⟩ := hp_keys _ _ q hq
    rw [List.append_nil] at hq'
    rw [← e]
    rcases List.mem_cons.mp hq' with rfl | hq'
    · exact I.ks (k, m) (by rw [hl]; exact List.mem_cons_self)
    · exact I.ks q' (by rw [hl]; exact List.mem_cons_of_mem _ hq')
  · rw [gly]
    split
    · exact hp_heap _
    · exact I.hy j
  · rw [gly]
    split
    · rw [hp_tot _ nn2, tot_app, tot_cons, tot_nil]
      simp only
      omega
    · exact I.rm j
  · rw [gly]
    have := I.len j
    show (gl s.out j).length + _ + _ ≤ _
    by_cases hj : j = bO c k
    · rw [if_pos hj]
      have := hp_le (gl s.ly (bO c k)) (k, x) (I.hy _)
      subst hj
      split <;> split at ll <;> omega
    · rw [if_neg hj]
      split <;> split at ll <;> omega
  · have := I.kl
    have := pt_len s.ly (bO c k) (hp (gl s.ly (bO c k) ++ [(k, x)]))
    show (pt s.ly (bO c k) _).length + _ ≤ _
    split <;> split at ll <;> omega
  · have := I.ko
    show s.out.length ≤ _
    split <;> omega
  · rw [tl]
    have t0 : m ≤ tot s.left := by rw [hl, tot_cons]; simp only; omega
    omega
/-- .. and if the row was not finished, no turn follows -/
theorem fdS_stop {c : Fc} {b : Nat} {n : Int} {s : FS} (I : FrI c b s) {came k m : Int} {r : Rw} (hl : s.left = (k, m) :: r) (h : came < n) (h0 : moreF c n s came k m ≠ 0) (hm : moreF c n s came k m ≠ m) :
    fdS c n (nxF c s k m r (moreF c n s came k m), came + moreF c n s came k m) = none := by
  obtain ⟨x0, x1, x2, x3, x4⟩ := more_b I hl h
  have hlh : Heap ((k, m) :: r) := by rw [← hl]; exact I.hl
  generalize hx : moreF c n s came k m = x at *
  unfold fdS
  have el : (nxF c s k m r x).left = (k, m - x) :: r := by
    show hp ((k, m - x) :: r) = _
    refine hp_of fun g y t e => ?_
    cases g with
    | nil =>
      have e1 : (k, m - x) = y := by
        have := congrArg List.head? e
        simpa using this
      rw [← e1]
      exact ⟨by simp only; omega, fun l hl => by cases hl⟩
    | cons z g =>
      have e1 : (k, m - x) = z ∧ r = g ++ y :: t := by
        rw [List.cons_append] at e
        exact List.cons.inj e
      have hy := hlh ((k, m) :: g) y t (by rw [e1.2]; rfl)
      refine ⟨hy.1, fun l hl => ?_⟩
      cases g with
      | nil =>
        have : l = z := by simpa using hl.symm
        rw [this, ← e1.1]
        exact hy.2 (k, m) rfl
      | cons w g =>
        rw [List.getLast?_cons_cons] at hl
        exact hy.2 l (by rw [List.getLast?_cons_cons]; exact hl)
  simp only [el]
  by_cases h1 : came + x < n
  · rw [if_pos h1]
    have x5 : x = c.room - tot (gl s.ly (bO c k)) := by omega
    have ez : moreF c n (nxF c s k m r x) (came + x) k (m - x) = 0 := by
      have ty : tot (gl (nxF c s k m r x).ly (bO c k)) = c.room := by
        show tot (gl (pt s.ly (bO c k) _) (bO c k)) = _
        rw [gl_pt, if_pos rfl, hp_tot _ fun q hq => ?_, tot_app, tot_cons, tot_nil]
        · simp only; omega
        · rcases List.mem_append.mp hq with hq | hq
          · exact Int.le_of_lt ((I.hy _).pos q hq)
          · rw [List.mem_singleton.mp hq]; exact x0
      unfold moreF
      rw [ty]
      have a := minI_le (m - x) (c.room - c.room)
      have b' := minI_le (minI (m - x) (c.room - c.room)) (n - (came + x))
      omega
    rw [if_pos ez]
  · rw [if_neg h1]
theorem fd_keeps {c : Fc} {n : Int} : ∀ (f : Nat) {b : Nat} {s : FS} {came : Int}, FrI c b s → FrI c (b + 1) (fdN c n f (s, came)).1
  | 0, b, s, came, I => ⟨I.hl, I.ks, I.hy, I.ho, I.rm, I.nd, fun j => Nat.le_succ_of_le (I.len j), Nat.le_succ_of_le I.kl, Nat.le_succ_of_le I.ko⟩
  | f + 1, b, s, came, I => by
    unfold fdN
    cases h : fdS c n (s, came) with
    | none => exact ⟨I.hl, I.ks, I.hy, I.ho, I.rm, I.nd, fun j => Nat.le_succ_of_le (I.len j), Nat.le_succ_of_le I.kl, Nat.le_succ_of_le I.ko⟩
    | some q =>
      obtain ⟨k, m, r, hl, h1, h0, rfl⟩ := fdS_some h
      obtain ⟨I2, _⟩ := I.next hl h1 h0
      by_cases hm : moreF c n s came k m = m
      · rw [if_pos hm] at I2
        exact fd_keeps f I2
      · rw [if_neg hm] at I2
        have st := fdS_stop I hl h1 h0 hm
        cases f with
        | zero => exact I2
        | succ f =>
          simp only
          unfold fdN
          rw [st]
          exact I2
noncomputable def fed (c : Fc) (s : FS) (n : Int) : FS × Int := fdN c n ((tot s.left).toNat + 1) (s, 0)
section
variable {c : Fc} {A R : Sto}
theorem while_ret {dead : List Nat} {t : Ev Bool} {body : Stm} {n : Nat} {e : En} {S S1 S2 : Sto} {d : D} (h : t e S = .ok true S1) (hb : body e S1 = .ret d S2) : whileN dead t body (n + 1) e S = .ret d S2 := by
  unfold whileN
  rw [h]
  simp only [hb]
theorem feed_while (n : Int) : ∀ (f : Nat) (b : Nat) (s : FS) (came : Int), (b ≤ 10000 ∨ (b ≤ 10001 ∧ fdS c n (s, came) = none)) → FrI c b s → (tot s.left).toNat < f →
    ∃ N, whileN [3, 4, 5, 6] (tAndD (eTB (e2 (eqD true) (e1 (fldD "Frame" "left") (eVar 0)) (eTup []))) (eTB (e2 ltD (eVar 2) (eVar 1)))) bFrame_feed_1 N (feE (A := A) n came) (Wf c A s R) = .next (feE (A := A) n (fdN c n f (s, came)).2) (Wf c A (fdN c n f (s, came)).1 R) ∨
      whileN [3, 4, 5, 6] (tAndD (eTB (e2 (eqD true) (e1 (fldD "Frame" "left") (eVar 0)) (eTup []))) (eTB (e2 ltD (eVar 2) (eVar 1)))) bFrame_feed_1 N (feE (A := A) n came) (Wf c A s R) = .ret (.int (fdN c n f (s, came)).2) (Wf c A (fdN c n f (s, came)).1 R)
  | 0, _, _, _, _, _, h => absurd h (Nat.not_lt_zero _)
  | f + 1, b, s, came, hb, I, h => by
    have ts := fe_test (c := c) (A := A) (R := R) (s := s) n came
    cases hl : s.left with
    | nil =>
      have e : fdN c n (f + 1) (s, came) = (s, came) := by
        unfold fdN fdS
        simp only [hl]
      rw [e]
      refine ⟨1, .inl (while_end ?_)⟩
      rw [ts, hl]
      rfl
    | cons x r =>
      obtain ⟨k, m⟩ := x
      by_cases h1 : came < n
      · have hk := I.ks (k, m) (by rw [hl]; exact List.mem_cons_self)
        have l1 := I.len (bO c k)
        have l2 := I.kl
        have hb' : b ≤ 10001 := by rcases hb with hb | hb <;> omega
        have l3 : s.left.length = r.length + 1 := by rw [hl]; rfl
        have tn := fe_turn (A := A) (R := R) n came k m r hl hk (by omega) (by omega) (by omega)
        have tt : (tAndD (eTB (e2 (eqD true) (e1 (fldD "Frame" "left") (eVar 0)) (eTup []))) (eTB (e2 ltD (eVar 2) (eVar 1)))) (feE (A := A) n came) (Wf c A s R) = .ok true (Wf c A s R) := by
          rw [ts, hl, decide_eq_true h1]
          rfl
        by_cases h0 : moreF c n s came k m = 0
        · have e : fdN c n (f + 1) (s, came) = (s, came) := by
            unfold fdN fdS
            simp only [hl]
            rw [if_pos h1, if_pos h0]
          rw [e]
          rw [if_pos h0] at tn
          exact ⟨1, .inr (while_ret tt tn)⟩
        · rw [if_neg h0] at tn
          have e : fdN c n (f + 1) (s, came) = fdN c n f (nxF c s k m r (moreF c n s came k m), came + moreF c n s came k m) := by
            conv => lhs; unfold fdN fdS
            simp only [hl]
            rw [if_pos h1, if_neg h0]
          rw [e]
          obtain ⟨I2, t⟩ := I.next hl h1 h0
          have hb1 : b ≤ 10000 := by
            rcases hb with hb | ⟨_, hb⟩
            · exact hb
            · exfalso
              unfold fdS at hb
              simp only [hl] at hb
              rw [if_pos h1, if_neg h0] at hb
              cases hb
          by_cases hm : moreF c n s came k m = m
          · rw [if_pos hm] at I2
            obtain ⟨N, q⟩ := feed_while n f b _ (came + moreF c n s came k m) (.inl hb1) I2 (by omega)
            refine ⟨N + 1, ?_⟩
            rw [while_go tt tn]
            exact q
          · rw [if_neg hm] at I2
            have st := fdS_stop I hl h1 h0 hm
            obtain ⟨N, q⟩ := feed_while n f (b + 1) _ (came + moreF c n s came k m) (.inr ⟨by omega, st⟩) I2 (by omega)
            refine ⟨N + 1, ?_⟩
            rw [while_go tt tn]
            exact q
      · have e : fdN c n (f + 1) (s, came) = (s, came) := by
          unfold fdN fdS
          simp only [hl]
          rw [if_neg h1]
        rw [e]
        refine ⟨1, .inl (while_end ?_)⟩
        rw [ts, hl, decide_eq_false h1]
        rfl
theorem feed_is (n : Int) {b : Nat} {s : FS} (hb : b ≤ 10000) (I : FrI c b s) : FFrame_feed [.ref A.length, .int n] (Wf c A s R) = .ok (.int (fed c s n).2) (Wf c A (fed c s n).1 R) := by
  obtain ⟨N, q⟩ := feed_while (c := c) (A := A) (R := R) n ((tot s.left).toNat + 1) b s 0 (.inl hb) I (Nat.lt_succ_self _)
  unfold fed
  generalize fdN c n ((tot s.left).toNat + 1) (s, 0) = p at *
  rcases q with q | q
  · have q' := whileD_eq q (by simp)
    simp only [feE] at q'
    simp only [FFrame_feed, runD, bFrame_feed, go0, goS]
    rw [q']
    simp only [goS]
    exact fin_Wf rfl
  · have q' := whileD_eq q (by simp)
    simp only [feE] at q'
    simp only [FFrame_feed, runD, bFrame_feed, go0, goS]
    rw [q']
    simp only [goS]
    exact fin_Wf rfl
end
theorem ap_raise {x : Str} {e : En} {S : Sto} : sRaise x e S = .exc x e S := id rfl
theorem seq_exc {c : Str} {e : En} {S : Sto} {b : Stm} : (SRes.exc c e S).seq b = .exc c e S := id rfl
theorem insU_len (k : Int) : ∀ xs : List Int, (insU k xs).length ≤ xs.length + 1
  | [] => by simp [insU]
  | x :: xs => by
    have := insU_len k xs
    unfold insU
    split
    · simp
    · split
      · simp
      · simp only [List.length_cons]; omega
theorem sset_len : ∀ ns : List Int, (sset ns).length ≤ ns.length
  | [] => by simp [sset]
  | n :: ns => by
    have h1 := sset_len ns
    have h2 := insU_len n (sset ns)
    show (insU n (sset ns)).length ≤ _
    rw [List.length_cons]
    omega
theorem st_new {A T : Sto} {F : List (Str × D)} {n : Str} {v : D} (h : F.length < 1000) : stF "Frame" n (.ref A.length) v (A ++ (.ins "Frame" F :: T)) = some (A ++ (.ins "Frame" (putFD n v F) :: T)) := by
  rw [stF_ref (S := A ++ (DO.ins "Frame" F :: T)) (gs := F) (by simp) h]
  simp
theorem init_is (A : Sto) (rs t : Rw) (many room : Int) (hl : rs.length < 64) (hm : ∀ r ∈ rs, r.1 ∈ t.map (·.1)) : FFrame___init__ [.ref A.length, tpD rowD rs, tabD (many, t), .int room] (A ++ [.ins "Frame" []]) = .ok .non (Wf ⟨homeZ t, many, room⟩ A ⟨rs, [], []⟩ []) := by
  have bb := bins_by (A ++ [.ins "Frame" []]) rs t many hl hm
  have s1 := st_new (A := A) (T := []) (F := []) (n := "bins") (v := .dct (dz (homeZ t))) (by simp)
  have ix : ∀ S, ixD (tabD (many, t)) (.int 0) S = .ok (.int many) S := fun S => rfl
  have s2 := st_new (A := A) (T := []) (F := putFD "bins" (.dct (dz (homeZ t))) []) (n := "many") (v := .int many) (by simp [putFD])
  have s3 := st_new (A := A) (T := []) (F := putFD "many" (.int many) (putFD "bins" (.dct (dz (homeZ t))) [])) (n := "room") (v := .int room) (by simp only [putFD, fq_bins_many, if_false]; simp)
  have s4 := st_new (A := A) (T := []) (F := putFD "room" (.int room) (putFD "many" (.int many) (putFD "bins" (.dct (dz (homeZ t))) []))) (n := "left") (v := tpD rowD rs) (by simp only [putFD, fq_bins_many, fq_bins_room, fq_many_room, if_false]; simp)
  have s5 := st_new (A := A) (T := [.dct []]) (F := putFD "left" (tpD rowD rs) (putFD "room" (.int room) (putFD "many" (.int many) (putFD "bins" (.dct (dz (homeZ t))) [])))) (n := "lying") (v := .ref (A.length + 1)) (by simp only [putFD, fq_bins_many, fq_bins_room, fq_many_room, fq_bins_left, fq_many_left, fq_room_left, if_false]; simp)
  have s6 := st_new (A := A) (T := [.dct [], .dct []]) (F := putFD "lying" (.ref (A.length + 1)) (putFD "left" (tpD rowD rs) (putFD "room" (.int room) (putFD "many" (.int many) (putFD "bins" (.dct (dz (homeZ t))) []))))) (n := "out") (v := .ref (A.length + 2)) (by simp only [putFD, fq_bins_many, fq_bins_room, fq_many_room, fq_bins_left, fq_many_left, fq_room_left, fq_bins_lying, fq_many_lying, fq_room_lying, fq_left_lying, if_false]; simp)
  have l1 : ∀ F, (A ++ [DO.ins "Frame" F]).length = A.length + 1 := fun F => by simp
  have l2 : ∀ F, (A ++ [DO.ins "Frame" F, DO.dct []]).length = A.length + 2 := fun F => by simp
  have a1 : ∀ F, A ++ [DO.ins "Frame" F] ++ [DO.dct []] = A ++ [DO.ins "Frame" F, DO.dct []] := fun F => by simp
  have a2 : ∀ F, A ++ [DO.ins "Frame" F, DO.dct []] ++ [DO.dct []] = A ++ [DO.ins "Frame" F, DO.dct [], DO.dct []] := fun F => by simp
  simp only [FFrame___init__, runD, bFrame___init__, go0, goS, ap_Fl, bb, s1, ix, s2, s3, s4, l1, a1, s5, l2, a2, s6]
  show Res.ok D.non _ = _
  congr 1
theorem init_I {rs t : Rw} {many room : Int} (hh : Heap rs) (hm : ∀ r ∈ rs, r.1 ∈ t.map (·.1)) (h0 : 0 < room) : FrI ⟨homeZ t, many, room⟩ rs.length ⟨rs, [], []⟩ :=
  ⟨hh, fun r hr => by
    show (getZ (homeZ t) r.1).isSome = true
    rw [home_at (hm r hr)]
    rfl, fun n g r t e => by
    have : ([] : Rw) = g ++ r :: t := e
    simp at this, fun n g r t e => by
    have : ([] : Rw) = g ++ r :: t := e
    simp at this, fun n => Int.le_of_lt h0, List.nodup_nil, fun n => by
    show 0 + 0 + rs.length ≤ _
    omega, by
    show 0 + rs.length ≤ _
    omega, Nat.zero_le _⟩
noncomputable def oI : Option Int → D
  | none => .non
  | some i => .int i
noncomputable def waF (c : Fc) (s : FS) : Option Int := match s.left with
  | [] => none
  | (k, _) :: _ => if c.room - tot (gl s.ly (bO c k)) = 0 then some (bO c k) else none
noncomputable def tkF (s : FS) (n : Int) : FS := ⟨s.left, s.ly.filter (fun p => decide (p.1 ≠ n)), pt s.out n (hp (gl s.out n ++ gl s.ly n))⟩
theorem gl_drop (d : List (Int × Rw)) (n j : Int) : gl (d.filter fun p => decide (p.1 ≠ n)) j = if j = n then [] else gl d j := by
  unfold gl gt
  by_cases h : j = n
  · subst h
    rw [if_pos rfl]
    have : (d.filter fun p => decide (p.1 ≠ j)).find? (fun p => decide (p.1 = j)) = none := by
      rw [List.find?_eq_none]
      intro p hp
      have := of_decide_eq_true (List.mem_filter.mp hp).2
      simpa using this
    rw [this]
    rfl
  · rw [if_neg h, List.find?_filter]
    congr 3
    funext p
    by_cases hp : p.1 = j
    · simp [hp, h]
    · simp [hp]
theorem drop_dgz (d : List (Int × Rw)) (n : Int) : dropD (dgz (tpD rowD) d) (.inl n) = dgz (tpD rowD) (d.filter fun p => decide (p.1 ≠ n)) := by
  unfold dropD dgz
  rw [List.filter_map]
  congr 1
  refine List.filter_congr fun p _ => ?_
  simp
theorem drop_none {d : List (Int × Rw)} {n : Int} (h : gt d n = none) : (d.filter fun p => decide (p.1 ≠ n)) = d := by
  rw [List.filter_eq_self]
  intro p hp
  refine decide_eq_true fun e => ?_
  have := gt_none.mp h
  exact this (List.mem_map.mpr ⟨p, hp, e⟩)
section
variable {c : Fc} {A R : Sto} {s : FS} {b : Nat}
theorem left_nil (neg : Bool) : eqD neg (tpD rowD s.left) (.tup []) (Wf c A s R) = .ok (.bl (if neg = true then !decide (s.left = []) else decide (s.left = []))) (Wf c A s R) := by
  cases neg with
  | true => exact rpRow.tp.ne (by decide) s.left [] (Wf c A s R)
  | false => exact rpRow.tp.eq (by decide) s.left [] (Wf c A s R)
theorem waits_is (hb : b ≤ 100000) (I : FrI c b s) : FFrame_waits [.ref A.length] (Wf c A s R) = .ok (oI (waF c s)) (Wf c A s R) := by
  have ln := left_nil (c := c) (A := A) (R := R) (s := s) false
  unfold waF
  cases hl : s.left with
  | nil =>
    have p := decide_eq_true hl
    simp only [FFrame_waits, runD, bFrame_waits, go0, goS, fld_left, ln, p, Bool.false_eq_true, if_false, if_true]
    exact fin_Wf rfl
  | cons x r =>
    obtain ⟨k, m⟩ := x
    have p : decide (s.left = []) = false := decide_eq_false (by rw [hl]; simp)
    have hk := I.ks (k, m) (by rw [hl]; exact List.mem_cons_self)
    have bn := bins_at (A := A) (R := R) (s := s) hk
    have l1 := I.len (bO c k)
    have fr := free_is (c := c) (A := A) (R := R) (s := s) (bO c k) (by omega)
    have l0 : ixD (tpD rowD s.left) (.int 0) (Wf c A s R) = .ok (rowD (k, m)) (Wf c A s R) := by rw [hl]; exact left_0 k m r _
    have x0 : ixD (rowD (k, m)) (.int 0) (Wf c A s R) = .ok (.int k) (Wf c A s R) := rfl
    simp only
    by_cases h0 : c.room - tot (gl s.ly (bO c k)) = 0
    · have p0 := decide_eq_true h0
      rw [if_pos h0]
      simp only [FFrame_waits, runD, bFrame_waits, go0, goS, fld_left, ln, p, Bool.false_eq_true, if_false, fld_bins, l0, x0, bn, ap_Meth, is_free, if_true, fr, eqD_int, p0]
      exact fin_Wf rfl
    · have p0 := decide_eq_false h0
      rw [if_neg h0]
      simp only [FFrame_waits, runD, bFrame_waits, go0, goS, fld_left, ln, p, Bool.false_eq_true, if_false, fld_bins, l0, x0, bn, ap_Meth, is_free, if_true, fr, eqD_int, p0]
      exact fin_Wf rfl
theorem rest_is : FFrame_rest [.ref A.length] (Wf c A s R) = .ok (tpD rowD s.left) (Wf c A s R) := by
  simp only [FFrame_rest, runD, bFrame_rest, go0, goS, fld_left]
  exact fin_Wf (gnd_rows _)
theorem need_ok {S : Sto} {n m : Int} (h0 : 0 ≤ n) (h1 : n < m) : Fneed_bin [.int n, .int m] S = .ok .non S := by
  have p0 := decide_eq_true h0
  have p1 := decide_eq_true h1
  simp only [Fneed_bin, runD, bneed_bin, go0, goS, leD_i, ltD_i, p0, p1, if_true, Bool.not_true, Bool.false_eq_true, if_false]
  exact fin_same rfl
theorem lies_is {n : Int} (h0 : 0 ≤ n) (h1 : n < c.many) : FFrame_lies [.ref A.length, .int n] (Wf c A s R) = .ok (tpD rowD (gl s.ly n)) (Wf c A s R) := by
  have nb := need_ok (S := Wf c A s R) h0 h1
  have g := get_drw (Wf_1 (c := c) (A := A) (s := s) (R := R)) n
  have d := dc_drw (Wf_1 (c := c) (A := A) (s := s) (R := R))
  simp only [FFrame_lies, runD, bFrame_lies, go0, goS, fld_many, nb, fld_lying, ap_Get, d, if_true, g]
  exact fin_Wf (gnd_rows _)
theorem taken_is {n : Int} (h0 : 0 ≤ n) (h1 : n < c.many) : FFrame_taken [.ref A.length, .int n] (Wf c A s R) = .ok (tpD rowD (gl s.out n)) (Wf c A s R) := by
  have nb := need_ok (S := Wf c A s R) h0 h1
  have g := get_drw (Wf_2 (c := c) (A := A) (s := s) (R := R)) n
  have d := dc_drw (Wf_2 (c := c) (A := A) (s := s) (R := R))
  simp only [FFrame_taken, runD, bFrame_taken, go0, goS, fld_many, nb, fld_out, ap_Get, d, if_true, g]
  exact fin_Wf (gnd_rows _)
theorem take_is (hb : b ≤ 100000) (I : FrI c b s) {n : Int} (h0 : 0 ≤ n) (h1 : n < c.many) : FFrame_take [.ref A.length, .int n] (Wf c A s R) = .ok (tpD rowD (gl s.ly n)) (Wf c A (tkF s n) R) := by
  have nb := need_ok (S := Wf c A s R) h0 h1
  have d := dc_drw (Wf_1 (c := c) (A := A) (s := s) (R := R))
  have pk : popK (.ref (A.length + 1)) (.int n) (.tup []) (Wf c A s R) = .ok (tpD rowD (gl s.ly n)) (Wf c A ⟨s.left, s.ly.filter (fun p => decide (p.1 ≠ n)), s.out⟩ R) := by
    rw [popK_ref Wf_1, dgz_get, drop_dgz]
    unfold gl
    cases h : gt s.ly n with
    | none =>
      rw [drop_none h]
      rfl
    | some v =>
      show Res.ok (tpD rowD v) ((Wf c A s R).set (A.length + 1) (drw _)) = _
      rw [Wf_set1]
      rfl
  have g2 := get_drw (Wf_2 (c := c) (A := A) (s := ⟨s.left, s.ly.filter (fun p => decide (p.1 ≠ n)), s.out⟩) (R := R)) n
  have d2 := dc_drw (Wf_2 (c := c) (A := A) (s := ⟨s.left, s.ly.filter (fun p => decide (p.1 ≠ n)), s.out⟩) (R := R))
  have l1 := I.len n
  have l2 := I.ko
  have jn := joined (Wf c A ⟨s.left, s.ly.filter (fun p => decide (p.1 ≠ n)), s.out⟩ R) (gl s.out n) (gl s.ly n) (by omega)
  have so := st_out (c := c) (A := A) (R := R) (s := ⟨s.left, s.ly.filter (fun p => decide (p.1 ≠ n)), s.out⟩) n (hp (gl s.out n ++ gl s.ly n)) (by show s.out.length < _; omega)
  simp only [FFrame_take, runD, bFrame_take, go0, goS, fld_many, nb, ap_PopK, fld_lying, d, if_true, pk, fld_out, ap_Get, d2, g2, jn, so]
  exact fin_Wf (s' := tkF s n) (gnd_rows _)
theorem FrI.take (I : FrI c b s) (n : Int) : FrI c (b + 1) (tkF s n) := by
  have gy := gl_drop s.ly n
  have go' : ∀ j, gl (tkF s n).out j = if j = n then hp (gl s.out n ++ gl s.ly n) else gl s.out j := fun j => gl_pt _ _ _ _
  refine ⟨I.hl, I.ks, fun j => ?_, fun j => ?_, fun j => ?_, ?_, fun j => ?_, ?_, ?_⟩
  · show Heap (gl (s.ly.filter _) j)
    rw [gy]
    split
    · intro g r t e
      simp at e
    · exact I.hy j
  · rw [go']
    split
    · exact hp_heap _
    · exact I.ho j
  · show tot (gl (s.ly.filter _) j) ≤ _
    rw [gy]
    split
    · have := tot_nn (I.hy n).pos
      have := I.rm n
      rw [tot_nil]
      omega
    · exact I.rm j
  · exact I.nd.sublist (List.Sublist.map _ List.filter_sublist)
  · rw [go']
    show _ + (gl (s.ly.filter _) j).length + s.left.length ≤ _
    rw [gy]
    have := I.len j
    by_cases hj : j = n
    · subst hj
      rw [if_pos rfl, if_pos rfl]
      have := hp_len (gl s.out j ++ gl s.ly j)
      rw [List.length_append] at this
      simp only [List.length_nil]
      omega
    · rw [if_neg hj, if_neg hj]
      omega
  · have := I.kl
    have := List.length_filter_le (fun p : Int × Rw => decide (p.1 ≠ n)) s.ly
    show (s.ly.filter _).length + s.left.length ≤ _
    omega
  · have := I.ko
    have := pt_len s.out n (hp (gl s.out n ++ gl s.ly n))
    show (pt s.out n _).length ≤ _
    omega
noncomputable def cmF (c : Fc) (s : FS) : Rw := (sset (c.h.map (·.2))).foldl (fun f n => hp (f ++ hp (gl s.out n ++ gl s.ly n))) []
theorem comes_no (h : s.left ≠ []) : FFrame_comes [.ref A.length] (Wf c A s R) = .exc "NotDone" (Wf c A s R) := by
  have ln := left_nil (c := c) (A := A) (R := R) (s := s) true
  have p := decide_eq_false h
  simp only [FFrame_comes, runD, bFrame_comes, go0, goS, fld_left, ln, p, Bool.not_false, if_true, ap_raise, seq_exc]
  exact exc_Wf
theorem comes_is (hb : b ≤ 10000) (I : FrI c b s) (hh : c.h.length < 64) (h : s.left = []) : FFrame_comes [.ref A.length] (Wf c A s R) = .ok (tpD rowD (cmF c s)) (Wf c A s R) := by
  have ln := left_nil (c := c) (A := A) (R := R) (s := s) true
  have p := decide_eq_true h
  have lp : ∀ (xs : List Int) (f : Rw) (ys : List D), f.length + xs.length * 10000 < 900000 → forD [2] (.nm 2) (.tmp ys) bFrame_comes_1 (xs.map D.int) [some (.ref A.length), some (tpD rowD f), none] (Wf c A s R) =
      .next [some (.ref A.length), some (tpD rowD (xs.foldl (fun f n => hp (f ++ hp (gl s.out n ++ gl s.ly n))) f)), none] (Wf c A s R) := by
    intro xs
    induction xs with
    | nil => intro f ys _; exact forD_nil trivial
    | cons n xs ih =>
      intro f ys hf
      rw [List.length_cons] at hf
      have l1 := I.len n
      have g1 := get_drw (Wf_1 (c := c) (A := A) (s := s) (R := R)) n
      have d1 := dc_drw (Wf_1 (c := c) (A := A) (s := s) (R := R))
      have g2 := get_drw (Wf_2 (c := c) (A := A) (s := s) (R := R)) n
      have d2 := dc_drw (Wf_2 (c := c) (A := A) (s := s) (R := R))
      have j1 := joined (Wf c A s R) (gl s.out n) (gl s.ly n) (by omega)
      have l2 := hp_len (gl s.out n ++ gl s.ly n)
      rw [List.length_append] at l2
      have j2 := joined (Wf c A s R) f (hp (gl s.out n ++ gl s.ly n)) (by omega)
      have l3 := hp_len (f ++ hp (gl s.out n ++ gl s.ly n))
      rw [List.length_append] at l3
      have t : turn [2] (.nm 2) bFrame_comes_1 (.int n) [some (.ref A.length), some (tpD rowD f), none] (Wf c A s R) = .next [some (.ref A.length), some (tpD rowD (hp (f ++ hp (gl s.out n ++ gl s.ly n)))), none] (Wf c A s R) := by
        simp only [turn, bFrame_comes_1, goS, fld_out, fld_lying, ap_Get, d1, d2, g1, g2, if_true, j1, j2]
      rw [List.map_cons, forD_cons (src := .tmp _) trivial, t]
      simp only
      rw [ih _ ys (by omega)]
      rfl
  have sl := sset_len (c.h.map (·.2))
  rw [List.length_map] at sl
  have q := lp (sset (c.h.map (·.2))) [] ((sset (c.h.map (·.2))).map D.int) (by simp; omega)
  have nv : nVals (e1 (fldD "Frame" "bins") (eVar 0)) [some (.ref A.length), some (.tup []), none] (Wf c A s R) = .ok (.lst ((c.h.map (·.2)).map D.int)) (Wf c A s R) := by
    rw [ap_Vals]
    simp only [goS, fld_bins, dcOf_dct]
    unfold dz
    rw [List.map_map, List.map_map]
    rfl
  have ss := nss nv (by rw [List.length_map]; exact Nat.lt_trans hh (by decide))
  have q' : forD [2] (.nm 2) (.tmp ((sset (c.h.map (·.2))).map D.int)) bFrame_comes_1 ((sset (c.h.map (·.2))).map D.int) [some (.ref A.length), some (.tup []), none] (Wf c A s R) = _ := q
  simp only [FFrame_comes, runD, bFrame_comes, go0, goS, fld_left, ln, p, Bool.not_true, Bool.false_eq_true, if_false, if_true]
  rw [forS_lst (xs := (sset (c.h.map (·.2))).map D.int) (by simp only [goS, ss]), q']
  simp only [goS]
  exact fin_Wf (gnd_rows _)
end
theorem lts_bound : ∀ rs : List (Int × Int), (∀ r ∈ rs, r.2 < 4) → (lts rs).length ≤ 3 * rs.length
  | [], _ => by simp [lts]
  | r :: rs, h => by
    have h1 := lts_bound rs fun q hq => h q (List.mem_cons_of_mem _ hq)
    have h2 := h r List.mem_cons_self
    rw [lts_cons, List.length_append, List.length_replicate, List.length_cons]
    omega
theorem log_lt {b : Int} (h0 : 0 < b) (h : b ≤ 10 ^ 60) : b.natAbs.log2 < 9000 := by
  have h1 : b.natAbs ≤ 10 ^ 60 := by
    have : ((10 ^ 60 : Nat) : Int) = 10 ^ 60 := by decide
    omega
  have h2 : b.natAbs < 2 ^ 210 := Nat.lt_of_le_of_lt h1 (by decide)
  have := (Nat.log2_lt (show b.natAbs ≠ 0 by omega)).mpr h2
  omega
/-- what is drawn: a heap, a table -/
structure Dr (rs t : List (Int × Int)) (many : Int) (tot : Nat) : Prop where
  m1 : 1 ≤ many
  m2 : many ≤ 10 ^ 59
  bin : ∀ r ∈ t, 0 ≤ r.2 ∧ r.2 < many
  tl : t.length ≤ 12
  hf : Hf rs
  len : rs.length < 64
  mem : ∀ r ∈ rs, r.1 ∈ t.map (·.1)
  tot : (lts rs).length ≤ tot
theorem gnd_told (rs t : List (Int × Int)) (many room : Int) : (D.tup [tpD rowD rs, tabD (many, t), .int room]).gnd = true := by
  show ((tpD rowD rs).gnd && (((D.int many).gnd && ((tpD rowD t).gnd && true)) && ((D.int room).gnd && true))) = true
  rw [rpRow.tp.gnd, rpRow.tp.gnd]
  rfl
theorem small (ns : List Int) : ∃ (rs t : List (Int × Int)) (many room : Int), Dr rs t many 900 ∧ many ≤ 6 ∧ 0 < room ∧ room ≤ 10 ∧ F_law_small [.fls (ns.map D.int)] [] = .ok (.tup [tpD rowD rs, tabD (many, t), .int room]) [] := by
  obtain ⟨N, hN, q1⟩ := big ns 0 (by decide) []
  have q1' : F_law_big [.fls (ns.map D.int), .int 0] [] = .ok (.int N) [] := q1
  have h1 : (0 : Nat) < ([DO.lst [.int N]] : Sto).length := by simp
  have d5 := dig (x := N) (m := 5) h1 (by decide) (by decide)
  have d5' : F_law_digit [.ref 0, .int 5] [DO.lst [.int N]] = .ok (.int (N % 5)) (Dg [DO.lst [.int N]] 0 (N / 5)) := d5
  obtain ⟨m, hm⟩ := Int.eq_ofNat_of_zero_le (show 0 ≤ 1 + N % 5 by omega)
  obtain ⟨ks, y, q2, hk⟩ := keys (m := m) (x := N / 5) h1 (by omega)
  rw [← hm] at q2
  -- the heap: its numbers lie behind the first cell
  obtain ⟨N', hN', q3⟩ := big ns 7 (by decide) (Dg [DO.lst [.int N]] 0 y)
  have q3' : F_law_big [.fls (ns.map D.int), .int 7] (Dg [DO.lst [.int N]] 0 y) = .ok (.int N') (Dg [DO.lst [.int N]] 0 y) := q3
  have l0 : (Dg [DO.lst [.int N]] 0 y).length = 1 := by rw [Dg_len]; rfl
  have e2 : ∀ y : Int, Dg [DO.lst [.int N]] 0 y ++ [DO.lst [.int N']] = Dg [DO.lst [.int N], DO.lst [.int N']] 0 y := fun y => rfl
  have h20 : (0 : Nat) < ([DO.lst [.int N], DO.lst [.int N']] : Sto).length := by simp
  have d13 := dig (x := y) (m := 13) h20 (by decide) (by decide)
  obtain ⟨n, hn⟩ := Int.eq_ofNat_of_zero_le (show 0 ≤ y % 13 by omega)
  rw [hn] at d13
  have e3 : Dg [DO.lst [.int N], DO.lst [.int N']] 0 (y / 13) = Dg [DO.lst [.int (y / 13)], DO.lst [.int N']] 1 N' := rfl
  have h21 : (1 : Nat) < ([DO.lst [.int (y / 13)], DO.lst [.int N']] : Sto).length := by simp
  obtain ⟨rs0, z1, q4, hr0, hR⟩ := rows (x := N') h21 ks (by omega) (by omega) n (by omega) false
  rw [← e3] at q4
  have e4 : Dg [DO.lst [.int (y / 13)], DO.lst [.int N']] 1 z1 = Dg [DO.lst [.int (y / 13)], DO.lst [.int z1]] 0 (y / 13) := rfl
  rw [e4] at q4
  have h22 : (0 : Nat) < ([DO.lst [.int (y / 13)], DO.lst [.int z1]] : Sto).length := by simp
  have q5 := lawheap (Dg [DO.lst [.int (y / 13)], DO.lst [.int z1]] 0 (y / 13)) rs0 (by omega)
  obtain ⟨hf, hlt⟩ := hp_facts rs0
  have hpk : ∀ r ∈ hp rs0, r.1 ∈ ks := fun r hr => by
    have := lts_mem hf.pos hr
    rw [hlt] at this
    obtain ⟨q, hq, e⟩ := List.mem_map.mp (mem_lts this)
    rw [← e]
    exact (hR q hq).1
  have hlen := hp_len rs0
  have hlb : (lts (hp rs0)).length ≤ 900 := by
    rw [hlt]
    have := lts_bound rs0 fun r hr => (hR r hr).2.2.1 rfl
    omega
  generalize hp rs0 = rs at q5 hf hlt hpk hlen hlb
  obtain ⟨many, t, z2, b1, b1b, b1c, b2, b3, b4, q7⟩ := table (x := y / 13) h22 ks (by omega) false
  -- the room
  obtain ⟨p, hp0, ha⟩ := lit_at3 (ms := [1, 3, 8]) (x := z2) (m := 3) rfl (by decide)
  have ha' : atI [D.int 1, D.int 3, D.int 8] (z2 % 3) = some (.int p) := ha
  have p8 : 0 < p ∧ p ≤ 8 := by
    simp only [List.mem_cons, List.not_mem_nil, or_false] at hp0
    rcases hp0 with rfl | rfl | rfl <;> decide
  have d3 := dig (x := z2) (m := 3) h22 (by decide) (by decide)
  have dp := dig (x := z2 / 3) (m := p) h22 p8.1 (log_lt p8.1 (Int.le_trans p8.2 (by decide)))
  have r1 : 0 ≤ z2 / 3 % p := Int.emod_nonneg _ (by omega)
  have r2 : z2 / 3 % p < p := Int.emod_lt_of_pos _ p8.1
  have h9 : (9 : Int) ≤ 10 ^ 60 := by decide
  refine ⟨rs, t, many, 1 + z2 / 3 % p, ⟨b1, b1b, b4, b3, hf, by omega, fun r hr => b2 _ (hpk r hr), hlb⟩, b1c rfl, by omega, by omega, ?_⟩
  simp only [F_law_small, runD, b_law_small, go0, goS, q1', List.nil_append, List.length_nil, d5', addD_int, q2, q3', l0, e2, d13, q4, q5, q7, d3, ixD_tup, ha', dp]
  rw [fin_frz ⟨Nat.zero_le _, fun k o hk => absurd hk (by simp)⟩ (gnd_told _ _ _ _)]
  rfl
structure FrJ (c : Fc) (rs : Rw) (s : FS) : Prop where
  j : ∀ n, lts (gl s.out n) ++ (lts (gl s.ly n) ++ (lts s.left).filter (fun k => decide (bO c k = n))) = (lts rs).filter (fun k => decide (bO c k = n))
theorem FrJ.ini (c : Fc) (rs : Rw) : FrJ c rs ⟨rs, [], []⟩ := ⟨fun n => by simp [gl, gt, lts]⟩
theorem lts_rep (k m x : Int) (r : Rw) (h0 : 0 ≤ x) (h1 : x ≤ m) : lts ((k, m) :: r) = List.replicate x.toNat k ++ lts ((k, m - x) :: r) := by
  rw [lts_cons, lts_cons, ← List.append_assoc, List.replicate_append_replicate]
  congr 2
  simp only
  omega
theorem FrJ.next {c : Fc} {rs : Rw} {s : FS} (J : FrJ c rs s) {k m x : Int} {r : Rw} (hl : s.left = (k, m) :: r) (h0 : 0 ≤ x) (h1 : x ≤ m) : FrJ c rs (nxF c s k m r x) := ⟨fun n => by
  have j := J.j n
  rw [hl, lts_rep k m x r h0 h1, List.filter_append, List.filter_replicate] at j
  have e1 : lts (nxF c s k m r x).left = lts ((k, m - x) :: r) := (hp_facts _).2
  have e2 : gl (nxF c s k m r x).ly n = if n = bO c k then hp (gl s.ly (bO c k) ++ [(k, x)]) else gl s.ly n := gl_pt _ _ _ _
  rw [e1, e2]
  show lts (gl s.out n) ++ _ = _
  by_cases hn : bO c k = n
  · rw [if_pos hn.symm, (hp_facts _).2, lts_app, hn]
    have p := decide_eq_true hn
    rw [p, if_pos rfl] at j
    rw [← j]
    simp [lts]
  · rw [if_neg fun e => hn e.symm]
    have p := decide_eq_false hn
    rw [p, if_neg (by decide), List.nil_append] at j
    exact j⟩
theorem FrJ.fd {c : Fc} {rs : Rw} {n : Int} : ∀ (f : Nat) {b : Nat} {s : FS} {came : Int}, FrI c b s → FrJ c rs s → FrJ c rs (fdN c n f (s, came)).1 ∧ (fdN c n f (s, came)).2 + tot (fdN c n f (s, came)).1.left = came + tot s.left
  | 0, b, s, came, I, J => ⟨J, rfl⟩
  | f + 1, b, s, came, I, J => by
    unfold fdN
    cases h : fdS c n (s, came) with
    | none => exact ⟨J, rfl⟩
    | some q =>
      obtain ⟨k, m, r, hl, h1, h0, rfl⟩ := fdS_some h
      obtain ⟨I2, _⟩ := I.next hl h1 h0
      obtain ⟨x0, x1, _⟩ := more_b I hl h1
      obtain ⟨J', e⟩ := FrJ.fd f I2 (J.next hl x0 x1)
      refine ⟨J', ?_⟩
      simp only
      rw [e]
      have tl : tot (nxF c s k m r (moreF c n s came k m)).left = tot s.left - moreF c n s came k m := by
        show tot (hp ((k, m - _) :: r)) = _
        have hr := (by rw [← hl]; exact I.hl : Heap ((k, m) :: r)).tl.pos
        rw [hp_tot _ fun q hq => ?_, hl, tot_cons, tot_cons]
        · simp only; omega
        · rcases List.mem_cons.mp hq with rfl | hq
          · simp only; omega
          · exact Int.le_of_lt (hr q hq)
      rw [tl]
      omega
theorem FrJ.take {c : Fc} {rs : Rw} {s : FS} (J : FrJ c rs s) (n : Int) : FrJ c rs (tkF s n) := ⟨fun j => by
  have h := J.j j
  have gy : gl (tkF s n).ly j = if j = n then [] else gl s.ly j := gl_drop s.ly n j
  have go' : gl (tkF s n).out j = if j = n then hp (gl s.out n ++ gl s.ly n) else gl s.out j := gl_pt _ _ _ _
  rw [gy, go']
  show _ ++ (_ ++ (lts s.left).filter _) = _
  by_cases hj : j = n
  · subst hj
    rw [if_pos rfl, if_pos rfl, (hp_facts _).2, lts_app, ← h]
    simp [lts]
  · rw [if_neg hj, if_neg hj]
    exact h⟩
theorem flat_sub {g : Int → List Int} : ∀ {ys xs : List Int}, xs.Pairwise (· < ·) → ys.Pairwise (· < ·) → (∀ x ∈ xs, x ∈ ys) → (∀ y ∈ ys, y ∉ xs → g y = []) → ys.flatMap g = xs.flatMap g
  | [], [], _, _, _, _ => rfl
  | [], x :: xs, _, _, h, _ => absurd (h x List.mem_cons_self) List.not_mem_nil
  | y :: ys, [], _, _, _, h => by
    rw [List.flatMap_cons, h y List.mem_cons_self List.not_mem_nil, List.nil_append]
    exact flat_sub (xs := []) .nil (List.Pairwise.of_cons ‹_›) (fun x hx => absurd hx List.not_mem_nil) fun z hz hn => h z (List.mem_cons_of_mem _ hz) hn
  | y :: ys, x :: xs, px, py, h, hg => by
    rw [List.pairwise_cons] at px py
    rw [List.flatMap_cons]
    by_cases e : x = y
    · subst e
      rw [List.flatMap_cons]
      congr 1
      refine flat_sub px.2 py.2 (fun z hz => ?_) fun z hz hn => hg z (List.mem_cons_of_mem _ hz) fun hm => ?_
      · rcases List.mem_cons.mp (h z (List.mem_cons_of_mem _ hz)) with e | hm
        · have := px.1 z hz
          omega
        · exact hm
      · rcases List.mem_cons.mp hm with e | hm
        · have := py.1 z hz
          omega
        · exact hn hm
    · have hx : x ∈ ys := (List.mem_cons.mp (h x List.mem_cons_self)).resolve_left e
      have lt := py.1 x hx
      rw [hg y List.mem_cons_self fun hm => by
        rcases List.mem_cons.mp hm with e' | hm
        · exact e e'.symm
        · have := px.1 y hm
          omega, List.nil_append]
      exact flat_sub (xs := x :: xs) (List.pairwise_cons.mpr px) py.2 (fun z hz => by
        rcases List.mem_cons.mp (h z hz) with e' | hm
        · exfalso
          rcases List.mem_cons.mp hz with e2 | hm
          · exact e (e2.symm.trans e')
          · have := px.1 z hm
            omega
        · exact hm) fun z hz hn => hg z (List.mem_cons_of_mem _ hz) hn
theorem cm_fold {s : FS} : ∀ (xs : List Int) (f : Rw), Hf f → Hf (xs.foldl (fun f n => hp (f ++ hp (gl s.out n ++ gl s.ly n))) f) ∧ lts (xs.foldl (fun f n => hp (f ++ hp (gl s.out n ++ gl s.ly n))) f) = lts f ++ xs.flatMap fun n => lts (gl s.out n) ++ lts (gl s.ly n)
  | [], f, h => ⟨h, by simp⟩
  | n :: xs, f, h => by
    obtain ⟨h1, h2⟩ := cm_fold (s := s) xs _ (hp_facts (f ++ hp (gl s.out n ++ gl s.ly n))).1
    refine ⟨h1, ?_⟩
    rw [List.foldl_cons, h2, (hp_facts _).2, lts_app, (hp_facts _).2, lts_app, List.flatMap_cons, List.append_assoc]
theorem home_vals {t : Rw} {k v : Int} (h : getZ (homeZ t) k = some v) : v ∈ (homeZ t).map (·.2) := by
  unfold getZ at h
  obtain ⟨p, hp, rfl⟩ := Option.map_eq_some_iff.mp h
  exact List.mem_map.mpr ⟨p, List.mem_of_find?_eq_some hp, rfl⟩
theorem sset_pw (ns : List Int) : (sset ns).Pairwise (· < ·) := by
  exact pw_sset ns
theorem home_val : ∀ (t h : List (Int × Int)) (k v : Int), getZ (t.foldl (fun h r => putZ h r.1 r.2) h) k = some v → (k, v) ∈ t ∨ getZ h k = some v
  | [], h, k, v, e => .inr e
  | r :: t, h, k, v, e => by
    rcases home_val t _ k v e with h1 | h1
    · exact .inl (List.mem_cons_of_mem _ h1)
    · rw [getZ_put] at h1
      by_cases hk : k = r.1
      · rw [if_pos hk] at h1
        cases h1
        subst hk
        exact .inl List.mem_cons_self
      · rw [if_neg hk] at h1
        exact .inr h1
theorem homeZ_len (t : Rw) : (homeZ t).length ≤ t.length := by
  have : ∀ (xs h : Rw), (xs.foldl (fun h r => putZ h r.1 r.2) h).length ≤ h.length + xs.length := by
    intro xs
    induction xs with
    | nil => intro h; simp
    | cons x xs ih =>
      intro h
      rw [List.foldl_cons, List.length_cons]
      have := ih (putZ h x.1 x.2)
      have := putZ_len h x.1 x.2
      omega
  have h := this t []
  rw [List.length_nil, Nat.zero_add] at h
  exact h
theorem fd_nn {c : Fc} {n : Int} : ∀ (f : Nat) {b : Nat} {s : FS} {came : Int}, FrI c b s → 0 ≤ came → 0 ≤ (fdN c n f (s, came)).2
  | 0, b, s, came, I, h => h
  | f + 1, b, s, came, I, h => by
    unfold fdN
    cases e : fdS c n (s, came) with
    | none => exact h
    | some q =>
      obtain ⟨k, m, r, hl, h1, h0, rfl⟩ := fdS_some e
      obtain ⟨I2, _⟩ := I.next hl h1 h0
      obtain ⟨x0, _⟩ := more_b I hl h1
      exact fd_nn f I2 (by omega)
theorem waF_some {c : Fc} {s : FS} {w : Int} (h : waF c s = some w) : ∃ k m r, s.left = (k, m) :: r ∧ w = bO c k ∧ tot (gl s.ly w) = c.room := by
  unfold waF at h
  cases hl : s.left with
  | nil => rw [hl] at h; cases h
  | cons x r =>
    obtain ⟨k, m⟩ := x
    rw [hl] at h
    simp only at h
    split at h
    · rename_i h0
      cases h
      exact ⟨k, m, r, rfl, rfl, by omega⟩
    · cases h
theorem tot_ltsR {rs : Rw} (h : ∀ r ∈ rs, 0 < r.2) : tot rs = (lts rs).length := by
  induction rs with
  | nil => rfl
  | cons r rs ih =>
    have := h r List.mem_cons_self
    rw [tot_cons, lts_cons, List.length_append, List.length_replicate, ih fun x hx => h x (List.mem_cons_of_mem _ hx)]
    omega
noncomputable def Ls (S : Sto) (d : D) (xs : List Int) : Prop := d = .lst (xs.map D.int) ∨ ∃ k, d = .ref k ∧ S[k]? = some (.lst (xs.map D.int))
section
variable {S : Sto} {d : D} {xs : List Int}
theorem Ls.lv (h : Ls S d xs) : lvOf S d = some (xs.map D.int) := by
  rcases h with rfl | ⟨k, rfl, h⟩
  · rfl
  · simp only [lvOf, h]
theorem Ls.py (h : Ls S d xs) : pyOf S d = pyOf S (lsD D.int xs) := by
  rcases h with rfl | ⟨k, rfl, h⟩
  · rfl
  · show (match S[k]? with | some (.lst xs) => PyData.list (pys xs) | _ => .dict []) = _
    rw [h]
    rfl
theorem Ls.nil (h : Ls S d xs) (neg : Bool) : eqD neg d (.lst []) S = .ok (.bl (if neg = true then !decide (xs = []) else decide (xs = []))) S := by
  have e : eqD neg d (.lst []) S = eqD neg (lsD D.int xs) (lsD D.int []) S := by
    unfold eqD shp eqB
    rw [h.py]
    rfl
  rw [e]
  cases neg
  · exact Rp.int.ls.eq (by decide) xs [] S
  · exact Rp.int.ls.ne (by decide) xs [] S
theorem Ls.len (h : Ls S d xs) : lenD [d] S = .ok (.int (xs.length : Nat)) S := by
  rcases h with rfl | ⟨k, rfl, h⟩
  · rw [lenD_lst, List.length_map]
  · rw [lenD_ref h, List.length_map]
theorem Ls.at0 {x : Int} (h : Ls S d (x :: xs)) : ixD d (.int 0) S = .ok (.int x) S := by
  rcases h with rfl | ⟨k, rfl, h⟩
  · rw [ixD_lst, atI_0]; rfl
  · rw [ixD_ref h, atI_0]; rfl
theorem Ls.add {d2 : D} {ys : List Int} (h : Ls S d xs) (h2 : Ls S d2 ys) (hl : xs.length + ys.length < 1000000) : addD d d2 S = .ok (.lst ((xs ++ ys).map D.int)) S := by
  have e : addD d d2 S = catL (lvOf S d) (lvOf S d2) S := by
    rcases h with rfl | ⟨k, rfl, h⟩ <;> rfl
  rw [e, h.lv, h2.lv, List.map_append]
  unfold catL
  simp only
  rw [if_pos (by rw [List.length_map, List.length_map]; exact Nat.le_of_lt (sz (by omega)))]
theorem Ls.of (xs : List Int) : Ls S (.lst (xs.map D.int)) xs := .inl rfl
end
noncomputable def hpL (xs : List Int) : Rw := hp (xs.map fun k => (k, 1))
theorem lts_ones (xs : List Int) : lts (xs.map fun k => (k, (1 : Int))) = xs := by
  induction xs with
  | nil => rfl
  | cons x xs ih => rw [List.map_cons, lts_cons, ih]; rfl
theorem Heap.hf {h : Rw} (hh : Heap h) : Hf h := by
  rw [← hp_of hh]
  exact (hp_facts h).1
theorem hpL_of {h : Rw} (hh : Heap h) : hpL (lts h) = h := by
  have e := hp_facts ((lts h).map fun k => (k, (1 : Int)))
  exact Hf.uniq e.1 hh.hf (e.2.trans (lts_ones _))
theorem lc_src {tg : Tg} {src : Src} {f : Ev D} {e : En} {S : Sto} (hok : src.ok S) {α : Type} (v g : α → D) : ∀ xs : List α, (∀ x ∈ xs, ∃ e1, bindT tg (v x) e = some e1 ∧ f e1 S = .ok (g x) S) → lcD tg src tYesD f e (xs.map v) S = .ok (xs.map g) S
  | [], _ => by rw [List.map_nil, lcD_nil, if_pos hok]; rfl
  | x :: xs, h => by
    obtain ⟨e1, q1, q2⟩ := h x List.mem_cons_self
    rw [List.map_cons, lcD_cons, if_pos hok, q1]
    simp only [ap_yes, nox_ok, Res.bind_ok, if_true, q2]
    rw [lc_src hok v g xs fun y hy => h y (List.mem_cons_of_mem _ hy)]
    rfl
theorem forD_same {dead : List Nat} {tg : Tg} {src : Src} {body : Stm} {e : En} {S : Sto} (hok : src.ok S) {α : Type} (v : α → D) : ∀ xs : List α, (∀ x ∈ xs, turn dead tg body (v x) e S = .next e S) → forD dead tg src body (xs.map v) e S = .next e S
  | [], _ => forD_nil hok
  | x :: xs, h => by
    rw [List.map_cons, forD_cons hok, h x List.mem_cons_self]
    exact forD_same hok v xs fun y hy => h y (List.mem_cons_of_mem _ hy)
theorem of_letters {S : Sto} {d : D} {xs : List Int} (h : Ls S d xs) (hl : xs.length < 100000) : F_law_of_letters [d] S = .ok (tpD rowD (hpL xs)) S := by
  have lw := lawheapS S (.lst ((xs.map fun k => (k, (1 : Int))).map rowD)) (xs.map fun k => (k, 1)) (.inr (.inl rfl)) (by rw [List.length_map]; omega)
  have lc : ∀ src : Src, src.ok S → lcD (.nm 1) src tYesD (eTup [(eVar 1), (eC (.int 1))]) [some d, none] (xs.map D.int) S = .ok ((xs.map fun k => (k, (1 : Int))).map rowD) S := fun src hs => by
    rw [List.map_map]
    exact lc_src hs D.int (fun k => rowD (k, 1)) xs fun k _ => ⟨[some d, some (.int k)], rfl, by simp only [goS]; rfl⟩
  have n1 : nLc [1] (.nm 1) (iS (eVar 0)) tYesD (eTup [(eVar 1), (eC (.int 1))]) [some d, none] S = .ok (.lst ((xs.map fun k => (k, (1 : Int))).map rowD)) S := by
    have hz : (xs.map D.int).length ≤ sizeLine := by rw [List.length_map]; exact Nat.le_of_lt (sz (by omega))
    have w : wipeE [some d, none] [1] = [some d, none] := rfl
    rcases h with rfl | ⟨k, rfl, h⟩
    · have e : iS (eVar 0) [some (.lst (xs.map D.int)), none] S = .ok (.tmp (xs.map D.int)) S := rfl
      rw [ap_Lc, e, Res.bind_ok]
      simp only [Src.items_tmp, w]
      rw [if_pos hz, lc (.tmp (xs.map D.int)) trivial]
      rfl
    · have e : iS (eVar 0) [some (.ref k), none] S = .ok (.st k (xs.map D.int)) S := by
        rw [ap_iS]
        exact srcS_ref h
      rw [ap_Lc, e, Res.bind_ok]
      simp only [Src.items_st, w]
      rw [if_pos hz, lc (.st k (xs.map D.int)) h]
      rfl
  simp only [F_law_of_letters, runD, b_law_of_letters, go0, goS, n1, lw]
  exact fin_same (rpRow.tp.gnd _)
structure Lm where
  left : List Int
  ad : Nat → Nat
  ly : Nat → List Int
  out : Nat → List Int
noncomputable def rgD (many : Nat) (f : Nat → D) : List (Key × D) := (List.range many).map fun n : Nat => (Sum.inl (n : Int), f n)
noncomputable def lyD (off many : Nat) (m : Lm) : List (Key × D) := rgD many fun n => .ref (off + m.ad n)
noncomputable def ouD (many : Nat) (m : Lm) : List (Key × D) := rgD many fun n => .lst ((m.out n).map D.int)
theorem rg_get (f : Nat → D) {many n : Nat} (h : n < many) : getK (rgD many f) (.inl (n : Int)) = some (f n) := by
  have : ∀ ns : List Nat, n ∈ ns → getK (ns.map fun n : Nat => (Sum.inl (n : Int), f n)) (.inl (n : Int)) = some (f n) := by
    intro ns
    induction ns with
    | nil => intro h; cases h
    | cons x ns ih =>
      intro h
      by_cases e : x = n
      · subst e
        simp [getK]
      · have h' : n ∈ ns := by
          rcases List.mem_cons.mp h with h | h
          · exact absurd h.symm e
          · exact h
        have := ih h'
        unfold getK at this ⊢
        rw [List.map_cons, List.find?_cons]
        have ne : decide ((Sum.inl (x : Int) : Key) = Sum.inl (n : Int)) = false := decide_eq_false fun q => e (by
          have := Sum.inl.inj q
          omega)
        simp only [ne]
        exact this
  exact this _ (List.mem_range.mpr h)
theorem rg_put (f : Nat → D) {many n : Nat} (h : n < many) (v : D) : putD (rgD many f) (.inl (n : Int)) v = rgD many fun j => if j = n then v else f j := by
  unfold putD rgD
  rw [if_pos (by
    rw [List.any_map, List.any_eq_true]
    exact ⟨n, List.mem_range.mpr h, by simp⟩), List.map_map]
  apply List.map_congr_left
  intro j _
  by_cases e : j = n
  · subst e
    simp
  · have : ¬ ((j : Int) = (n : Int)) := by omega
    simp [e, this]
theorem rg_keys (f : Nat → D) (many : Nat) : keysI (rgD many f) = some ((List.range many).map fun n : Nat => (n : Int)) := by
  have : ∀ ns : List Nat, keysI (ns.map fun n : Nat => (Sum.inl (n : Int), f n)) = some (ns.map fun n : Nat => (n : Int)) := by
    intro ns
    induction ns with
    | nil => rfl
    | cons x ns ih =>
      rw [List.map_cons, List.map_cons]
      show (keysI _).map _ = _
      rw [ih]
      rfl
  exact this _
theorem rg_len (f : Nat → D) (many : Nat) : (rgD many f).length = many := by simp [rgD]
/-- how the law's things stand behind the frame -/
structure Bs (off many : Nat) (m : Lm) (R : Sto) : Prop where
  l : R[0]? = some (.lst (m.left.map D.int))
  y : R[1]? = some (.dct (lyD off many m))
  o : R[2]? = some (.dct (ouD many m))
  b : ∀ n, n < many → R[m.ad n]? = some (.lst ((m.ly n).map D.int))
  ge : ∀ n, n < many → 3 ≤ m.ad n
  inj : ∀ i j, i < many → j < many → m.ad i = m.ad j → i = j
structure Ch (many : Nat) (m : Lm) (R R' : Sto) : Prop where
  len : R'.length = R.length
  bel : ∀ (i : Nat) (o : DO), R'[i]? = some o → R[i]? = some o ∨ ∀ n, o.bel n = true
  oth : ∀ r, r ≠ 0 → (∀ n, n < many → m.ad n ≠ r) → R'[r]? = R[r]?
theorem Ch.refl {many : Nat} {m : Lm} {R : Sto} : Ch many m R R := ⟨rfl, fun _ _ h => .inl h, fun _ _ _ => rfl⟩
theorem Ch.trans {many : Nat} {m m' : Lm} {R R1 R2 : Sto} (a : Ch many m R R1) (b : Ch many m' R1 R2) (e : m'.ad = m.ad) : Ch many m R R2 := ⟨b.len.trans a.len, fun i o h => by
  rcases b.bel i o h with h | h
  · exact a.bel i o h
  · exact .inr h, fun r h0 h => by
  rw [b.oth r h0 (by rw [e]; exact h), a.oth r h0 h]⟩
theorem bel_ints (n : Nat) (xs : List Int) : (DO.lst (xs.map D.int)).bel n = true := gnds_below n _ (gnds_ints xs)
/-- one letter goes from the left into bin b -/
noncomputable def stL (m : Lm) (k : Int) (r : List Int) (b : Nat) : Lm := ⟨r, m.ad, fun j => if j = b then m.ly b ++ [k] else m.ly j, m.out⟩
section
variable {off many : Nat} {m : Lm} {R : Sto}
theorem Bs.lt (h : Bs off many m R) {n : Nat} (hn : n < many) : m.ad n < R.length := (List.getElem?_eq_some_iff.mp (h.b n hn)).1
theorem Bs.l0 (h : Bs off many m R) : 2 < R.length := (List.getElem?_eq_some_iff.mp h.o).1
theorem Bs.step (h : Bs off many m R) (k : Int) (r : List Int) {b : Nat} (hb : b < many) :
    Bs off many (stL m k r b) ((R.set 0 (.lst (r.map D.int))).set (m.ad b) (.lst ((m.ly b ++ [k]).map D.int))) ∧ Ch many m R ((R.set 0 (.lst (r.map D.int))).set (m.ad b) (.lst ((m.ly b ++ [k]).map D.int))) := by
  have g := h.ge b hb
  have l0 := h.l0
  have lb := h.lt hb
  have at_ : ∀ i, i ≠ m.ad b → ((R.set 0 (.lst (r.map D.int))).set (m.ad b) (.lst ((m.ly b ++ [k]).map D.int)))[i]? = (R.set 0 (.lst (r.map D.int)))[i]? := fun i hi => by rw [List.getElem?_set_ne (Ne.symm hi)]
  have at0 : ∀ i, i ≠ 0 → (R.set 0 (DO.lst (r.map D.int)))[i]? = R[i]? := fun i hi => by rw [List.getElem?_set_ne (Ne.symm hi)]
  refine ⟨⟨?_, ?_, ?_, fun n hn => ?_, h.ge, h.inj⟩, ⟨by simp, fun i o ho => ?_, fun x h0 hx => ?_⟩⟩
  · rw [at_ 0 (by omega), List.getElem?_set_self (by omega)]; rfl
  · rw [at_ 1 (by omega), at0 1 (by omega)]; exact h.y
  · rw [at_ 2 (by omega), at0 2 (by omega)]; exact h.o
  · show _ = some (DO.lst ((if n = b then m.ly b ++ [k] else m.ly n).map D.int))
    by_cases e : n = b
    · rw [if_pos e, e]
      exact List.getElem?_set_self (by rw [List.length_set]; exact lb)
    · rw [if_neg e]
      have ne : m.ad n ≠ m.ad b := fun q => e (h.inj n b hn hb q)
      have g2 := h.ge n hn
      show ((R.set 0 (.lst (r.map D.int))).set (m.ad b) _)[m.ad n]? = _
      rw [at_ _ ne, at0 _ (by omega)]
      exact h.b n hn
  · by_cases e : i = m.ad b
    · subst e
      rw [List.getElem?_set_self (by rw [List.length_set]; exact lb)] at ho
      cases ho
      exact .inr fun n => bel_ints n _
    · rw [at_ i e] at ho
      by_cases e0 : i = 0
      · subst e0
        rw [List.getElem?_set_self (by omega)] at ho
        cases ho
        exact .inr fun n => bel_ints n _
      · rw [at0 i e0] at ho
        exact .inl ho
  · rw [at_ x (Ne.symm (hx b hb)), at0 x h0]
end
noncomputable def st3 (A : Sto) : D := .lst [.ref (A.length + 3), .ref (A.length + 3 + 1), .ref (A.length + 3 + 2)]
noncomputable def bn (c : Fc) (k : Int) : Nat := (bO c k).toNat
structure Kin (c : Fc) (many : Nat) (l : List Int) : Prop where
  k : ∀ k ∈ l, (getZ c.h k).isSome = true
  b : ∀ k ∈ l, 0 ≤ bO c k ∧ bO c k < many
theorem Kin.bn {c : Fc} {many : Nat} {l : List Int} (K : Kin c many l) {k : Int} (h : k ∈ l) : ((bn c k : Nat) : Int) = bO c k ∧ bn c k < many := by
  have := K.b k h
  unfold Lw.bn
  omega
section
variable {c : Fc} {A R : Sto} {s : FS} {many : Nat} {m : Lm}
theorem wf_l (h : Bs (A.length + 3) many m R) : (Wf c A s R)[A.length + 3]? = some (.lst (m.left.map D.int)) := (Wf_beh 0).trans h.l
theorem wf_y (h : Bs (A.length + 3) many m R) : (Wf c A s R)[A.length + 3 + 1]? = some (.dct (lyD (A.length + 3) many m)) := (Wf_beh 1).trans h.y
theorem wf_o (h : Bs (A.length + 3) many m R) : (Wf c A s R)[A.length + 3 + 2]? = some (.dct (ouD many m)) := (Wf_beh 2).trans h.o
theorem wf_b (h : Bs (A.length + 3) many m R) {n : Nat} (hn : n < many) : (Wf c A s R)[A.length + 3 + m.ad n]? = some (.lst ((m.ly n).map D.int)) := (Wf_beh _).trans (h.b n hn)
theorem ls_l (h : Bs (A.length + 3) many m R) : Ls (Wf c A s R) (.ref (A.length + 3)) m.left := .inr ⟨_, rfl, wf_l h⟩
theorem ls_b (h : Bs (A.length + 3) many m R) {n : Nat} (hn : n < many) : Ls (Wf c A s R) (.ref (A.length + 3 + m.ad n)) (m.ly n) := .inr ⟨_, rfl, wf_b h hn⟩
theorem ix_y (h : Bs (A.length + 3) many m R) {n : Nat} (hn : n < many) : ixD (.ref (A.length + 3 + 1)) (.int (n : Int)) (Wf c A s R) = .ok (.ref (A.length + 3 + m.ad n)) (Wf c A s R) := by
  simp only [ixD, dcR (wf_y h), Pu.keyOf, lyD, rg_get _ hn, opt_some]
theorem ix_o (h : Bs (A.length + 3) many m R) {n : Nat} (hn : n < many) : ixD (.ref (A.length + 3 + 2)) (.int (n : Int)) (Wf c A s R) = .ok (.lst ((m.out n).map D.int)) (Wf c A s R) := by
  simp only [ixD, dcR (wf_o h), Pu.keyOf, ouD, rg_get _ hn, opt_some]
theorem bins_ats {S : Sto} {k : Int} (h : (getZ c.h k).isSome = true) : ixD (.dct (dz c.h)) (.int k) S = .ok (.int (bO c k)) S := by
  obtain ⟨v, hv⟩ := Option.isSome_iff_exists.mp h
  rw [ixD_dct dcOf_dct hv]
  unfold bO
  rw [hv]
  rfl
theorem wf_clo {s' : FS} {R' : Sto} (hl : R'.length = R.length) (hR : ∀ (i : Nat) (o : DO), R'[i]? = some o → R[i]? = some o ∨ ∀ n, o.bel n = true) : Clo (Wf c A s R) (Wf c A s' R') := by
  refine ⟨by rw [Wf_len, Wf_len, hl]; exact Nat.le_refl _, fun j o hj hs => ?_⟩
  rw [Wf_len] at hj ⊢
  by_cases h0 : j < A.length
  · left
    rw [← hs]
    unfold Wf
    rw [List.getElem?_append_left h0, List.getElem?_append_left h0]
  · by_cases h1 : j < A.length + 3
    · right
      have : j = A.length ∨ j = A.length + 1 ∨ j = A.length + 2 := by omega
      rcases this with rfl | rfl | rfl
      · rw [Wf_0] at hs; cases hs; exact bel_frF _ _ _ (by omega)
      · rw [Wf_1] at hs; cases hs; exact bel_drw _ _
      · rw [Wf_2] at hs; cases hs; exact bel_drw _ _
    · obtain ⟨i, rfl⟩ : ∃ i, j = A.length + 3 + i := ⟨j - (A.length + 3), by omega⟩
      rw [Wf_beh] at hs ⊢
      rcases hR i o hs with h | h
      · exact .inl h
      · exact .inr (h _)
theorem fin_ch {s' : FS} {R' : Sto} {d : D} (h : Ch many m R R') (hd : d.gnd = true) : fin .frz (Wf c A s R) d (Wf c A s' R') = .ok d (Wf c A s' R') := by
  rw [fin_frz (wf_clo h.len h.bel) hd, Wf_len, List.take_of_length_le (by rw [Wf_len, h.len]; exact Nat.le_refl _)]
noncomputable def lwE (c : Fc) (A : Sto) (n came : Int) : En := [some (st3 A), some (.dct (dz c.h)), some (.int c.room), some (.int n), some (.ref (A.length + 3)), some (.ref (A.length + 3 + 1)), some (.ref (A.length + 3 + 2)), some (.int came)]
noncomputable def lwT : Ev Bool := (tAndD (eTB (e2 (eqD true) (eVar 4) (eAno (nLst [])))) (tAndD (eTB (e2 ltD (eVar 7) (eVar 3))) (eTB (e2 ltD (eCall lenD [(e2 ixD (eVar 5) (e2 ixD (eVar 1) (e2 ixD (eVar 4) (eC (.int 0)))))]) (eVar 2)))))
theorem lw_nil (h : Bs (A.length + 3) many m R) (n came : Int) (hl : m.left = []) : lwT (lwE c A n came) (Wf c A s R) = .ok false (Wf c A s R) := by
  have e := (ls_l (c := c) (s := s) h).nil true
  rw [hl] at e
  simp only [lwT, lwE, goS, e, if_true, decide_true, Bool.not_true, Bool.false_eq_true, if_false]
theorem lw_test (h : Bs (A.length + 3) many m R) (n came : Int) {k : Int} {r : List Int} (hl : m.left = k :: r) (K : Kin c many m.left) : lwT (lwE c A n came) (Wf c A s R) = .ok (decide (came < n) && decide (((m.ly (bn c k)).length : Int) < c.room)) (Wf c A s R) := by
  have lz := ls_l (c := c) (s := s) h
  have e := lz.nil true
  rw [hl] at e lz
  have km : k ∈ m.left := by rw [hl]; exact List.mem_cons_self
  obtain ⟨b1, b2⟩ := K.bn km
  have i1 := bins_ats (S := Wf c A s R) (K.k k km)
  rw [← b1] at i1
  have i2 := ix_y (c := c) (s := s) h b2
  have i3 := (ls_b (c := c) (s := s) h b2).len
  have p : decide (k :: r = []) = false := decide_eq_false (by simp)
  rw [p] at e
  by_cases h2 : came < n
  · have p2 := decide_eq_true h2
    simp only [lwT, lwE, goS, e, if_true, Bool.not_false, ltD_i, p2, lz.at0, i1, i2, i3, Bool.true_and]
  · have p2 := decide_eq_false h2
    simp only [lwT, lwE, goS, e, if_true, Bool.not_false, ltD_i, p2, Bool.false_eq_true, if_false, Bool.false_and]
theorem lw_turn (h : Bs (A.length + 3) many m R) (n came : Int) {k : Int} {r : List Int} (hl : m.left = k :: r) (K : Kin c many m.left) (hz : (m.ly (bn c k)).length < 1000000) :
    b_law_fed_1 (lwE c A n came) (Wf c A s R) = .next (lwE c A n (came + 1)) (Wf c A s ((R.set 0 (.lst (r.map D.int))).set (m.ad (bn c k)) (.lst ((m.ly (bn c k) ++ [k]).map D.int)))) := by
  have lz := ls_l (c := c) (s := s) h
  have wl := wf_l (c := c) (s := s) h
  rw [hl] at lz wl
  have km : k ∈ m.left := by rw [hl]; exact List.mem_cons_self
  obtain ⟨b1, b2⟩ := K.bn km
  have i1 := bins_ats (S := Wf c A s R) (K.k k km)
  rw [← b1] at i1
  have i2 := ix_y (c := c) (s := s) h b2
  have wb := wf_b (c := c) (s := s) h b2
  have g := h.ge _ b2
  have t1 := isT_ref wb
  have pp : popD (.ref (A.length + 3)) [.int 0] (Wf c A s R) = .ok (.int k) (Wf c A s (R.set 0 (.lst (r.map D.int)))) := by
    rw [popD_ref (n := 0) (i := 0) wl rfl (by decide) rfl]
    show Res.ok _ ((Wf c A s R).set (A.length + 3 + 0) _) = _
    rw [Wf_setB]
    rfl
  have wl2 := isT_ref wl
  have wb2 : (Wf c A s (R.set 0 (.lst (r.map D.int))))[A.length + 3 + m.ad (bn c k)]? = some (.lst ((m.ly (bn c k)).map D.int)) := by
    rw [Wf_beh, List.getElem?_set_ne (by omega)]
    exact h.b _ b2
  have ap : appD (.ref (A.length + 3 + m.ad (bn c k))) [.int k] (Wf c A s (R.set 0 (.lst (r.map D.int)))) = .ok .non (Wf c A s ((R.set 0 (.lst (r.map D.int))).set (m.ad (bn c k)) (.lst ((m.ly (bn c k) ++ [k]).map D.int)))) := by
    rw [appD_ref wb2 (sz (by rw [List.length_map]; omega)), Wf_setB, List.map_append]
    rfl
  simp only [b_law_fed_1, lwE, goS, lz.at0, i1, i2, t1, if_true, wl2, pp, ap, addD_int]
/-- so many letters of one key -/
theorem lw_run (n : Int) {k : Int} : ∀ (j : Nat) (m : Lm) (R : Sto) (came : Int) (r : List Int), Bs (A.length + 3) many m R → Kin c many m.left → m.left = List.replicate j k ++ r → came + j ≤ n → ((m.ly (bn c k)).length : Int) + j ≤ c.room → (m.ly (bn c k)).length + j < 1000000 →
    ∃ (m' : Lm) (R' : Sto), (∀ N, whileN [] lwT b_law_fed_1 (N + j) (lwE c A n came) (Wf c A s R) = whileN [] lwT b_law_fed_1 N (lwE c A n (came + j)) (Wf c A s R')) ∧ Bs (A.length + 3) many m' R' ∧ Ch many m R R' ∧ m'.left = r ∧ m'.ad = m.ad ∧ m'.out = m.out ∧ ∀ i, m'.ly i = if i = bn c k then m.ly i ++ List.replicate j k else m.ly i
  | 0, m, R, came, r, B, K, hl, _, _, _ => ⟨m, R, fun N => by simp, B, .refl, by rw [hl]; rfl, rfl, rfl, fun i => by simp⟩
  | j + 1, m, R, came, r, B, K, hl, hn, hr, hz => by
    have hl' : m.left = k :: (List.replicate j k ++ r) := by rw [hl, List.replicate_succ]; rfl
    have km : k ∈ m.left := by rw [hl']; exact List.mem_cons_self
    obtain ⟨b1, b2⟩ := K.bn km
    have ts := lw_test (c := c) (A := A) (s := s) B n came hl' K
    rw [decide_eq_true (show came < n by omega), decide_eq_true (show ((m.ly (bn c k)).length : Int) < c.room by omega)] at ts
    have tn := lw_turn (c := c) (A := A) (s := s) B n came hl' K (by omega)
    obtain ⟨B2, C2⟩ := B.step k (List.replicate j k ++ r) b2
    have K2 : Kin c many (stL m k (List.replicate j k ++ r) (bn c k)).left := ⟨fun x hx => K.k x (by rw [hl']; exact List.mem_cons_of_mem _ hx), fun x hx => K.b x (by rw [hl']; exact List.mem_cons_of_mem _ hx)⟩
    have ly2 : (stL m k (List.replicate j k ++ r) (bn c k)).ly (bn c k) = m.ly (bn c k) ++ [k] := if_pos rfl
    obtain ⟨m', R', hw, B3, C3, e1, e2, e3, e4⟩ := lw_run n j (stL m k (List.replicate j k ++ r) (bn c k)) _ (came + 1) r B2 K2 rfl (by omega) (by rw [ly2, List.length_append]; simp; omega) (by rw [ly2, List.length_append]; simp; omega)
    refine ⟨m', R', fun N => ?_, B3, C2.trans C3 rfl, e1, e2, e3, fun i => ?_⟩
    · rw [show N + (j + 1) = (N + j) + 1 by omega, while_go ts tn]
      show whileN [] lwT b_law_fed_1 (N + j) (lwE c A n (came + 1)) _ = _
      rw [hw N]
      congr 2
      omega
    · rw [e4 i]
      by_cases e : i = bn c k
      · rw [if_pos e, if_pos e, e, ly2, List.append_assoc]
        rfl
      · rw [if_neg e, if_neg e]
        exact if_neg e
end
structure Mq (many : Nat) (s : FS) (m : Lm) : Prop where
  left : m.left = lts s.left
  ly : ∀ n : Nat, n < many → m.ly n = lts (gl s.ly (n : Int))
  out : ∀ n : Nat, n < many → m.out n = lts (gl s.out (n : Int))
structure Cf (c : Fc) (many : Nat) : Prop where
  m : c.many = many
  v : ∀ k v, getZ c.h k = some v → 0 ≤ v ∧ v < many
  r : c.room < 1000
section
variable {c : Fc} {A R : Sto} {s f0 : FS} {many b : Nat} {m : Lm}
theorem Cf.at (C : Cf c many) {k : Int} (h : (getZ c.h k).isSome = true) : 0 ≤ bO c k ∧ bO c k < many := by
  obtain ⟨v, hv⟩ := Option.isSome_iff_exists.mp h
  have := C.v k v hv
  unfold bO
  rw [hv]
  exact this
theorem Cf.bn (C : Cf c many) {k : Int} (h : (getZ c.h k).isSome = true) : ((bn c k : Nat) : Int) = bO c k ∧ bn c k < many := by
  have := C.at h
  unfold Lw.bn
  omega
theorem FrI.kin (I : FrI c b s) (C : Cf c many) : Kin c many (lts s.left) := by
  have : ∀ k ∈ lts s.left, (getZ c.h k).isSome = true := fun k hk => by
    obtain ⟨r, hr, e⟩ := List.mem_map.mp (mem_lts hk)
    rw [← e]
    exact I.ks r hr
  exact ⟨this, fun k hk => C.at (this k hk)⟩
theorem lts_hp (f : Rw) : lts (hp f) = lts f := (hp_facts f).2
theorem lw_stop (C : Cf c many) (n came : Int) (I : FrI c b s) (q : Mq many s m) (B : Bs (A.length + 3) many m R) (h : fdS c n (s, came) = none) : lwT (lwE c A n came) (Wf c A f0 R) = .ok false (Wf c A f0 R) := by
  cases hl : s.left with
  | nil => exact lw_nil B n came (by rw [q.left, hl]; rfl)
  | cons p r =>
    obtain ⟨k, x⟩ := p
    have x0 := I.hl.pos (k, x) (by rw [hl]; exact List.mem_cons_self)
    simp only at x0
    have hk : (getZ c.h k).isSome = true := I.ks (k, x) (by rw [hl]; exact List.mem_cons_self)
    obtain ⟨b1, b2⟩ := C.bn hk
    have e : m.left = k :: (List.replicate (x.toNat - 1) k ++ lts r) := by
      rw [q.left, hl, lts_cons]
      show List.replicate x.toNat k ++ lts r = _
      rw [show x.toNat = (x.toNat - 1) + 1 by omega, List.replicate_succ]
      rfl
    have K := I.kin C
    rw [← q.left] at K
    rw [lw_test B n came e K]
    by_cases h1 : came < n
    · have h0 : moreF c n s came k x = 0 := by
        unfold fdS at h
        simp only [hl] at h
        rw [if_pos h1] at h
        by_cases z : moreF c n s came k x = 0
        · exact z
        · rw [if_neg z] at h; cases h
      obtain ⟨a0, a1, a2, a3, a4⟩ := more_b I hl h1
      have rr := I.rm (bO c k)
      have tl := tot_ltsR (rs := gl s.ly (bO c k)) fun r hr => (I.hy (bO c k)).pos r hr
      have ml := q.ly _ b2
      rw [b1] at ml
      rw [decide_eq_true h1, decide_eq_false (show ¬ (((m.ly (bn c k)).length : Int) < c.room) by rw [ml]; omega)]
      rfl
    · rw [decide_eq_false h1]
      rfl
theorem lw_feds (C : Cf c many) (n : Int) : ∀ (f b : Nat) (s : FS) (m : Lm) (R : Sto) (came : Int), FrI c b s → Mq many s m → Bs (A.length + 3) many m R → (tot s.left).toNat < f →
    ∃ (N : Nat) (m' : Lm) (R' : Sto), Mq many (fdN c n f (s, came)).1 m' ∧ Bs (A.length + 3) many m' R' ∧ Ch many m R R' ∧ m'.ad = m.ad ∧ whileN [] lwT b_law_fed_1 N (lwE c A n came) (Wf c A f0 R) = .next (lwE c A n (fdN c n f (s, came)).2) (Wf c A f0 R')
  | 0, _, _, _, _, _, _, _, _, h => absurd h (Nat.not_lt_zero _)
  | f + 1, b, s, m, R, came, I, q, B, h => by
    cases e : fdS c n (s, came) with
    | none =>
      have e2 : fdN c n (f + 1) (s, came) = (s, came) := by
        unfold fdN
        rw [e]
      rw [e2]
      exact ⟨1, m, R, q, B, .refl, rfl, while_end (lw_stop C n came I q B e)⟩
    | some p =>
      have e2 : fdN c n (f + 1) (s, came) = fdN c n f p := by
        conv => lhs; unfold fdN
        rw [e]
      rw [e2]
      obtain ⟨k, x, r, hl, h1, h0, rfl⟩ := fdS_some e
      have hk : (getZ c.h k).isSome = true := I.ks (k, x) (by rw [hl]; exact List.mem_cons_self)
      obtain ⟨b1, b2⟩ := C.bn hk
      obtain ⟨a0, a1, a2, a3, a4⟩ := more_b I hl h1
      obtain ⟨I2, t⟩ := I.next hl h1 h0
      generalize moreF c n s came k x = y at *
      have K := I.kin C
      rw [← q.left] at K
      have tl := tot_ltsR (rs := gl s.ly (bO c k)) fun r hr => (I.hy (bO c k)).pos r hr
      have ml := q.ly _ b2
      rw [b1] at ml
      have cr := C.r
      have el : m.left = List.replicate y.toNat k ++ lts ((k, x - y) :: r) := by rw [q.left, hl, lts_rep k x y r a0 a1]
      obtain ⟨m1, R1, hw, B1, C1, f1, f2, f3, f4⟩ := lw_run (c := c) (A := A) (s := f0) n y.toNat m R came _ B K el (by omega) (by rw [ml]; omega) (by rw [ml]; omega)
      have q1 : Mq many (nxF c s k x r y) m1 := ⟨by
        rw [f1]
        exact (lts_hp _).symm, fun j hj => by
        rw [f4 j]
        show _ = lts (gl (pt s.ly (bO c k) (hp (gl s.ly (bO c k) ++ [(k, y)]))) (j : Int))
        rw [gl_pt]
        by_cases e : j = bn c k
        · rw [if_pos e, if_pos (by rw [e, b1]), lts_hp, lts_app, q.ly j hj, e, b1]
          congr 1
          show _ = List.replicate y.toNat k ++ []
          rw [List.append_nil]
        · rw [if_neg e, if_neg (by omega), q.ly j hj], fun j hj => by
        rw [f3]
        exact q.out j hj⟩
      obtain ⟨N, m', R', q2, B2, C2, g1, hw2⟩ := lw_feds C n f _ (nxF c s k x r y) m1 R1 (came + y) I2 q1 B1 (by omega)
      refine ⟨N + y.toNat, m', R', q2, B2, C1.trans C2 f2, g1.trans f2, ?_⟩
      rw [hw N, show came + (y.toNat : Int) = came + y by omega]
      exact hw2
theorem startE_4 (a b c d : D) : startE 8 [a, b, c, d] = [some a, some b, some c, some d, none, none, none, none] := rfl
theorem s3_0 (S : Sto) : ixD (st3 A) (.int 0) S = .ok (.ref (A.length + 3)) S := by rw [st3, ixD_lst, atI_0]; rfl
theorem s3_1 (S : Sto) : ixD (st3 A) (.int 1) S = .ok (.ref (A.length + 3 + 1)) S := by rw [st3, ixD_lst, atI_1]; rfl
theorem s3_2 (S : Sto) : ixD (st3 A) (.int 2) S = .ok (.ref (A.length + 3 + 2)) S := by rw [st3, ixD_lst, atI_2]; rfl
theorem s3_lv (S : Sto) : lvOf S (st3 A) = some [.ref (A.length + 3), .ref (A.length + 3 + 1), .ref (A.length + 3 + 2)] := rfl
theorem lw_fed (C : Cf c many) (n : Int) (I : FrI c b s) (q : Mq many s m) (B : Bs (A.length + 3) many m R) : ∃ (m' : Lm) (R' : Sto), Mq many (fed c s n).1 m' ∧ Bs (A.length + 3) many m' R' ∧ Ch many m R R' ∧ m'.ad = m.ad ∧
    F_law_fed [st3 A, .dct (dz c.h), .int c.room, .int n] (Wf c A f0 R) = .ok (.int (fed c s n).2) (Wf c A f0 R') := by
  obtain ⟨N, m', R', q', B', C', e', hw⟩ := lw_feds (A := A) (f0 := f0) C n ((tot s.left).toNat + 1) b s m R 0 I q B (Nat.lt_succ_self _)
  refine ⟨m', R', q', B', C', e', ?_⟩
  unfold fed
  generalize fdN c n ((tot s.left).toNat + 1) (s, 0) = p at *
  have q' := whileD_eq hw (by simp)
  simp only [lwE, lwT] at q'
  simp only [F_law_fed, runD, b_law_fed, startE_4, goS, ap_AsgL, s3_lv]
  rw [q']
  simp only [goS]
  exact fin_ch C' rfl
theorem lw_waits (C : Cf c many) (I : FrI c b s) (q : Mq many s m) (B : Bs (A.length + 3) many m R) : F_law_waits [st3 A, .dct (dz c.h), .int c.room] (Wf c A f0 R) = .ok (oI (waF c s)) (Wf c A f0 R) := by
  have lz := ls_l (c := c) (s := f0) B
  have e := lz.nil true
  unfold waF
  cases hl : s.left with
  | nil =>
    have ml : m.left = [] := by rw [q.left, hl]; rfl
    rw [ml] at e
    simp only [F_law_waits, runD, b_law_waits, go0, goS, s3_0, e, if_true, decide_true, Bool.not_true, Bool.false_eq_true, if_false]
    exact fin_same rfl
  | cons p r =>
    obtain ⟨k, x⟩ := p
    have x0 := I.hl.pos (k, x) (by rw [hl]; exact List.mem_cons_self)
    simp only at x0
    have hk : (getZ c.h k).isSome = true := I.ks (k, x) (by rw [hl]; exact List.mem_cons_self)
    obtain ⟨b1, b2⟩ := C.bn hk
    have el : m.left = k :: (List.replicate (x.toNat - 1) k ++ lts r) := by
      rw [q.left, hl, lts_cons]
      show List.replicate x.toNat k ++ lts r = _
      rw [show x.toNat = (x.toNat - 1) + 1 by omega, List.replicate_succ]
      rfl
    rw [el] at e lz
    have i1 := bins_ats (S := Wf c A f0 R) hk
    rw [← b1] at i1
    have i2 := ix_y (c := c) (s := f0) B b2
    have i3 := (ls_b (c := c) (s := f0) B b2).len
    have tl := tot_ltsR (rs := gl s.ly (bO c k)) fun r hr => (I.hy (bO c k)).pos r hr
    have ml := q.ly _ b2
    rw [b1] at ml
    rw [decide_eq_false (show ¬ (k :: (List.replicate (x.toNat - 1) k ++ lts r) = []) by simp)] at e
    simp only
    by_cases h0 : c.room - tot (gl s.ly (bO c k)) = 0
    · have p0 : decide (((m.ly (bn c k)).length : Int) = c.room) = true := decide_eq_true (by rw [ml]; omega)
      rw [if_pos h0, ← b1]
      simp only [F_law_waits, runD, b_law_waits, go0, goS, s3_0, s3_1, e, if_true, Bool.not_false, lz.at0, i1, i2, i3, eqD_int, p0]
      exact fin_same rfl
    · have p0 : decide (((m.ly (bn c k)).length : Int) = c.room) = false := decide_eq_false (by rw [ml]; omega)
      rw [if_neg h0]
      simp only [F_law_waits, runD, b_law_waits, go0, goS, s3_0, s3_1, e, if_true, Bool.not_false, lz.at0, i1, i2, i3, eqD_int, p0, Bool.false_eq_true, if_false]
      exact fin_same rfl
end
theorem ints_of (many : Nat) : ((List.range many).map fun n : Nat => (n : Int)).Pairwise (· < ·) := List.pairwise_map.mpr (List.pairwise_lt_range.imp fun h => by omega)
theorem want_is {t rs : Rw} {s : FS} {room : Int} {many : Nat} (J : FrJ ⟨homeZ t, many, room⟩ rs s) (hm : ∀ r ∈ rs, r.1 ∈ t.map (·.1)) (hl : s.left = []) (hz : ∀ v ∈ (homeZ t).map (·.2), 0 ≤ v ∧ v < (many : Int)) :
    cmF ⟨homeZ t, many, room⟩ s = hpL ((List.range many).flatMap fun n : Nat => lts (gl s.out (n : Int)) ++ lts (gl s.ly (n : Int))) := by
  obtain ⟨h1, h2⟩ := cm_fold (s := s) (sset ((homeZ t).map (·.2))) [] Hf.nil
  refine Hf.uniq h1 (hp_facts _).1 ?_
  rw [show lts (cmF ⟨homeZ t, many, room⟩ s) = _ from h2]
  have e0 : lts (hpL ((List.range many).flatMap fun n : Nat => lts (gl s.out (n : Int)) ++ lts (gl s.ly (n : Int)))) = _ := (hp_facts _).2.trans (lts_ones _)
  rw [e0]
  show [] ++ _ = _
  rw [List.nil_append]
  have e1 : ((List.range many).flatMap fun n : Nat => lts (gl s.out (n : Int)) ++ lts (gl s.ly (n : Int))) = ((List.range many).map fun n : Nat => (n : Int)).flatMap fun n => lts (gl s.out n) ++ lts (gl s.ly n) := by rw [List.flatMap_map]
  rw [e1]
  refine (flat_sub (sset_pw _) (ints_of many) (fun x hx => ?_) fun y _ hy => ?_).symm
  · obtain ⟨a, b⟩ := hz x (mem_sset.mp hx)
    obtain ⟨n, hn⟩ := Int.eq_ofNat_of_zero_le a
    exact List.mem_map.mpr ⟨n, List.mem_range.mpr (by omega), hn.symm⟩
  · have j := J.j y
    rw [hl] at j
    have j' : lts (gl s.out y) ++ lts (gl s.ly y) = (lts rs).filter fun k => decide (bO ⟨homeZ t, many, room⟩ k = y) := by simpa [lts] using j
    rw [j', List.filter_eq_nil_iff]
    intro k hk
    simp only [decide_eq_true_eq]
    intro he
    obtain ⟨r, hr, e2⟩ := List.mem_map.mp (mem_lts hk)
    refine hy (mem_sset.mpr (home_vals (t := t) (k := k) ?_))
    rw [← he]
    exact home_at (by rw [← e2]; exact hm r hr)
theorem try0_ok {ks : List (Str × Bool)} {u : Stm} {hd : Str → Stm} {e e1 : En} {S S1 : Sto} (h : u e S = .next e1 S1) : sTry0 ks u hd e S = .next e1 S1 := by
  unfold sTry0
  rw [h]
theorem try0_gotr {ks : List (Str × Bool)} {u : Stm} {hd : Str → Stm} {e e1 : En} {S S1 S2 : Sto} {x : Str} {d : D} (h : u e S = .exc x e1 S1) (hl : ks.lookup x = some true) (h2 : hd x e1 S1 = .ret d S2) : sTry0 ks u hd e S = .ret d S2 := by
  unfold sTry0
  rw [h]
  simp only [hl, if_true, h2]
theorem FrJ.bd {c : Fc} {rs : Rw} {s : FS} (J : FrJ c rs s) (n : Int) : (lts (gl s.out n)).length + (lts (gl s.ly n)).length ≤ (lts rs).length := by
  have j := congrArg List.length (J.j n)
  rw [List.length_append, List.length_append] at j
  have := List.length_filter_le (fun k => decide (bO c k = n)) (lts rs)
  omega
section
variable {c : Fc} {A R : Sto} {s f0 : FS} {many b : Nat} {m : Lm} {rs : Rw}
noncomputable def snE (c : Fc) (A : Sto) (w : List Int) (n f : Option D) : En := [some (.ref A.length), some (st3 A), some (.dct (dz c.h)), some (.int c.room), some (.ref (A.length + 3)), some (.ref (A.length + 3 + 1)), some (.ref (A.length + 3 + 2)), some (.lst (w.map D.int)), n, f]
theorem ne_tp (f : Rw) (S : Sto) : eqD true (tpD rowD f) (tpD rowD f) S = .ok (.bl false) S := by
  have := rpRow.tp.ne (by decide) f f S
  rwa [decide_eq_true rfl] at this
theorem eq_tp (f : Rw) (S : Sto) : eqD false (tpD rowD f) (tpD rowD f) S = .ok (.bl true) S := by
  have := rpRow.tp.eq (by decide) f f S
  rwa [decide_eq_true rfl] at this
theorem ne_oI (o : Option Int) (S : Sto) : eqD true (oI o) (oI o) S = .ok (.bl false) S := by
  cases o with
  | none => rfl
  | some p => rw [oI, neD_int]; simp
theorem seen_k (C : Cf c many) (I : FrI c b s) (J : FrJ c rs s) (hL : (lts rs).length ≤ 1000) (q : Mq many s m) (B : Bs (A.length + 3) many m R) : sForK [8] (.nm 8) 5 b_law_seen_1 (snE c A [] none none) (Wf c A s R) = .next (snE c A [] none none) (Wf c A s R) := by
  refine forK_eq (n := A.length + 3 + 1) (kvs := lyD (A.length + 3) many m) rfl (wf_y B) fun od vs => ?_
  have l0 := B.l0
  have e1 : (Wf c A s R).set (A.length + 3 + 1) (.fdc od vs (lyD (A.length + 3) many m)) = Wf c A s (R.set 1 (.fdc od vs (lyD (A.length + 3) many m))) := Wf_setB 1 _
  unfold forL
  rw [e1]
  have a1 : (Wf c A s (R.set 1 (.fdc od vs (lyD (A.length + 3) many m))))[A.length + 3 + 1]? = some (.fdc od vs (lyD (A.length + 3) many m)) := (Wf_beh 1).trans (List.getElem?_set_self (by omega))
  have oth : ∀ i, i ≠ 1 → (Wf c A s (R.set 1 (.fdc od vs (lyD (A.length + 3) many m))))[A.length + 3 + i]? = R[i]? := fun i hi => (Wf_beh i).trans (List.getElem?_set_ne (Ne.symm hi))
  have iky : iKy 5 (snE c A [] none none) (Wf c A s (R.set 1 (.fdc od vs (lyD (A.length + 3) many m)))) = .ok (.fk (A.length + 3 + 1) od vs (lyD (A.length + 3) many m)) (Wf c A s (R.set 1 (.fdc od vs (lyD (A.length + 3) many m)))) := by
    unfold iKy
    show (match (Wf c A s (R.set 1 (.fdc od vs (lyD (A.length + 3) many m))))[A.length + 3 + 1]? with
      | some (.fdc od vs kvs) => Res.ok (Src.fk (A.length + 3 + 1) od vs kvs) _
      | _ => .bad) = _
    rw [a1]
  have it : (Src.fk (A.length + 3 + 1) od vs (lyD (A.length + 3) many m)).items = (List.range many).map fun n : Nat => D.int (n : Int) := by
    show (lyD _ _ _).map _ = _
    unfold lyD rgD
    rw [List.map_map]
    rfl
  have tn : ∀ n ∈ List.range many, turn [8] (.nm 8) b_law_seen_1 (.int (n : Int)) (snE c A [] none none) (Wf c A s (R.set 1 (.fdc od vs (lyD (A.length + 3) many m)))) = .next (snE c A [] none none) (Wf c A s (R.set 1 (.fdc od vs (lyD (A.length + 3) many m)))) := fun n hn => by
    have hn := List.mem_range.mp hn
    have n0 : (0 : Int) ≤ (n : Int) := Int.natCast_nonneg n
    have n1 : ((n : Nat) : Int) < c.many := by rw [C.m]; omega
    have li : FFrame_lies [.ref A.length, .int n] (Wf c A s (R.set 1 (.fdc od vs (lyD (A.length + 3) many m)))) = .ok (tpD rowD (gl s.ly n)) (Wf c A s (R.set 1 (.fdc od vs (lyD (A.length + 3) many m)))) := lies_is n0 n1
    have ta : FFrame_taken [.ref A.length, .int n] (Wf c A s (R.set 1 (.fdc od vs (lyD (A.length + 3) many m)))) = .ok (tpD rowD (gl s.out n)) (Wf c A s (R.set 1 (.fdc od vs (lyD (A.length + 3) many m)))) := taken_is n0 n1
    have i1 : isM "Frame" "lies" (.ref A.length) (Wf c A s (R.set 1 (.fdc od vs (lyD (A.length + 3) many m)))) = true := is_lies
    have i2 : isM "Frame" "taken" (.ref A.length) (Wf c A s (R.set 1 (.fdc od vs (lyD (A.length + 3) many m)))) = true := is_taken
    have g := B.ge n hn
    have x1 : ixF (.ref (A.length + 3 + 1)) (.int (n : Int)) (Wf c A s (R.set 1 (.fdc od vs (lyD (A.length + 3) many m)))) = .ok (.ref (A.length + 3 + m.ad n)) (Wf c A s (R.set 1 (.fdc od vs (lyD (A.length + 3) many m)))) := by
      have gk : getK (lyD (A.length + 3) many m) (.inl (n : Int)) = some (.ref (A.length + 3 + m.ad n)) := rg_get _ hn
      simp only [ixF, a1, Pu.keyOf, gk, opt_some]
    have a2 : (Wf c A s (R.set 1 (.fdc od vs (lyD (A.length + 3) many m))))[A.length + 3 + 2]? = some (.dct (ouD many m)) := (oth 2 (by omega)).trans B.o
    have x2 : ixD (.ref (A.length + 3 + 2)) (.int (n : Int)) (Wf c A s (R.set 1 (.fdc od vs (lyD (A.length + 3) many m)))) = .ok (.lst ((m.out n).map D.int)) (Wf c A s (R.set 1 (.fdc od vs (lyD (A.length + 3) many m)))) := by
      have gk : getK (ouD many m) (.inl (n : Int)) = some (.lst ((m.out n).map D.int)) := rg_get _ hn
      simp only [ixD, dcR a2, Pu.keyOf, gk, opt_some]
    have l1 : Ls (Wf c A s (R.set 1 (.fdc od vs (lyD (A.length + 3) many m)))) (.ref (A.length + 3 + m.ad n)) (m.ly n) := .inr ⟨_, rfl, (oth _ (by omega)).trans (B.b n hn)⟩
    have bd := J.bd (n : Int)
    have o1 := of_letters l1 (by rw [q.ly n hn]; omega)
    have o2 := of_letters (S := Wf c A s (R.set 1 (.fdc od vs (lyD (A.length + 3) many m)))) (Ls.of (m.out n)) (by rw [q.out n hn]; omega)
    rw [q.ly n hn, hpL_of (I.hy _)] at o1
    rw [show hpL (m.out n) = gl s.out (n : Int) by rw [q.out n hn, hpL_of (I.ho _)]] at o2
    have bt : bindT (.nm 8) (.int (n : Int)) (snE c A [] none none) = some (snE c A [] (some (.int (n : Int))) none) := rfl
    unfold turn
    rw [bt]
    simp only [b_law_seen_1, snE, goS, ap_Meth, i1, i2, if_true, li, ta, x1, x2, o1, o2, ne_tp, Bool.false_eq_true, if_false]
  rw [ap_For, iky, Res.stm_ok, it, forD_same (src := .fk (A.length + 3 + 1) od vs (lyD (A.length + 3) many m)) a1 (fun n : Nat => D.int (n : Int)) (List.range many) tn]
  show (@ite _ ((Wf c A s (R.set 1 (.fdc od vs (lyD (A.length + 3) many m))))[A.length + 3 + 1]? = some (.fdc od vs (lyD (A.length + 3) many m))) (Classical.propDecidable _) (SRes.next _ ((Wf c A s (R.set 1 (.fdc od vs (lyD (A.length + 3) many m)))).set (A.length + 3 + 1) (.dct (lyD (A.length + 3) many m)))) .bad) = _
  rw [if_pos a1, Wf_setB, List.set_set]
  have sm : R.set 1 (.dct (lyD (A.length + 3) many m)) = R := by
    have := B.y
    obtain ⟨h1, h2⟩ := List.getElem?_eq_some_iff.mp this
    rw [← h2, List.set_getElem_self]
  rw [sm]
theorem seen_w (q : Mq many s m) (J : FrJ c rs s) (hL : (lts rs).length ≤ 1000) (B : Bs (A.length + 3) many m R) (ys : List D) : ∀ (xs : List Nat) (w : List Int), (∀ n ∈ xs, n < many) → w.length + xs.length * 2000 < 900000 →
    forD [8] (.nm 8) (.tmp ys) b_law_seen_2 (xs.map fun n : Nat => D.int (n : Int)) (snE c A w none none) (Wf c A s R) = .next (snE c A (w ++ xs.flatMap fun n => m.out n ++ m.ly n) none none) (Wf c A s R)
  | [], w, _, _ => by
    rw [List.flatMap_nil, List.append_nil]
    exact forD_nil trivial
  | n :: xs, w, hx, hl => by
    rw [List.length_cons] at hl
    have hn := hx n List.mem_cons_self
    have bd := J.bd (n : Int)
    have e1 := q.ly n hn
    have e2 := q.out n hn
    have x1 := ix_y (c := c) (s := s) B hn
    have x2 := ix_o (c := c) (s := s) B hn
    have a1 : addD (.lst (w.map D.int)) (.lst ((m.out n).map D.int)) (Wf c A s R) = .ok (.lst ((w ++ m.out n).map D.int)) (Wf c A s R) := (Ls.of w).add (Ls.of (m.out n)) (by rw [e2]; omega)
    have a2 : addD (.lst ((w ++ m.out n).map D.int)) (.ref (A.length + 3 + m.ad n)) (Wf c A s R) = .ok (.lst ((w ++ m.out n ++ m.ly n).map D.int)) (Wf c A s R) := (Ls.of (w ++ m.out n)).add (ls_b (c := c) (s := s) B hn) (by rw [List.length_append, e2, e1]; omega)
    have bt : bindT (.nm 8) (.int (n : Int)) (snE c A w none none) = some (snE c A w (some (.int (n : Int))) none) := rfl
    have t : turn [8] (.nm 8) b_law_seen_2 (.int (n : Int)) (snE c A w none none) (Wf c A s R) = .next (snE c A (w ++ m.out n ++ m.ly n) none none) (Wf c A s R) := by
      unfold turn
      rw [bt]
      simp only [b_law_seen_2, snE, goS, x1, x2, a1, a2]
    rw [List.map_cons, forD_cons (src := .tmp _) trivial, t]
    simp only
    rw [seen_w q J hL B ys xs _ (fun j hj => hx j (List.mem_cons_of_mem _ hj)) (by rw [List.length_append, List.length_append, e1, e2]; omega)]
    rw [List.flatMap_cons, List.append_assoc, List.append_assoc, List.append_assoc]
theorem startE_4t (a b c d : D) : startE 10 [a, b, c, d] = [some a, some b, some c, some d, none, none, none, none, none, none] := rfl
theorem lw_seen {t : Rw} {room : Int} (hc : c = ⟨homeZ t, many, room⟩) (hm : ∀ r ∈ rs, r.1 ∈ t.map (·.1)) (hz : ∀ v ∈ (homeZ t).map (·.2), 0 ≤ v ∧ v < (many : Int)) (hh : c.h.length < 64) (m6 : many ≤ 6) (hb : b ≤ 9000) (C : Cf c many) (I : FrI c b s) (J : FrJ c rs s) (hL : (lts rs).length ≤ 1000) (ht : tot s.left ≤ 1000) (q : Mq many s m) (B : Bs (A.length + 3) many m R) :
    F_law_seen [.ref A.length, st3 A, .dct (dz c.h), .int c.room] (Wf c A s R) = .ok (.bl true) (Wf c A s R) := by
  have w1 : FFrame_waits [.ref A.length] (Wf c A s R) = .ok (oI (waF c s)) (Wf c A s R) := waits_is (show b ≤ 100000 by omega) I
  have w2 := lw_waits (A := A) (f0 := s) C I q B
  have i1 : isM "Frame" "waits" (.ref A.length) (Wf c A s R) = true := is_waits
  have i2 : isM "Frame" "rest" (.ref A.length) (Wf c A s R) = true := is_rest
  have i3 : isM "Frame" "comes" (.ref A.length) (Wf c A s R) = true := is_comes
  have re : FFrame_rest [.ref A.length] (Wf c A s R) = .ok (tpD rowD s.left) (Wf c A s R) := rest_is
  have lz := ls_l (c := c) (s := s) B
  have tl := tot_ltsR (rs := s.left) fun r hr => I.hl.pos r hr
  have ol := of_letters lz (by rw [q.left]; omega)
  rw [q.left, hpL_of I.hl] at ol
  have no := fun S => ne_oI (waF c s) S
  have sk := seen_k (A := A) C I J hL q B
  have ns : nSort (eVar 5) (snE c A [] none none) (Wf c A s R) = .ok (.lst (((List.range many).map fun n : Nat => (n : Int)).map D.int)) (Wf c A s R) := by
    have := nSort_dct (f := eVar 5) (e := snE c A [] none none) (S := Wf c A s R) (d := .ref (A.length + 3 + 1)) rfl (dcR (wf_y B)) (rg_keys _ many) (by simp; omega)
    rw [this, ← uniq_le ((ints_of many).imp Int.le_of_lt) (pw_sortI _) (perm_sortI _).symm]
  rw [List.map_map] at ns
  have ns' : nSort (eVar 5) (snE c A [] none none) (Wf c A s R) = .ok (.lst ((List.range many).map fun n : Nat => D.int (n : Int))) (Wf c A s R) := ns
  have lp := seen_w (A := A) q J hL B ((List.range many).map fun n : Nat => D.int (n : Int)) (List.range many) [] (fun n hn => List.mem_range.mp hn) (by rw [List.length_range]; simp; omega)
  rw [List.nil_append] at lp
  have fs := forS_lst (dead := [8]) (tg := .nm 8) (a := b_law_seen_2) (f := eAno (nSort (eVar 5))) (e := snE c A [] none none) (S := Wf c A s R) (xs := (List.range many).map fun n : Nat => D.int (n : Int)) (by rw [ap_Ano, ns']; rfl)
  rw [lp] at fs
  have wl : ((List.range many).flatMap fun n => m.out n ++ m.ly n).length < 100000 := by
    have : ∀ xs : List Nat, (∀ n ∈ xs, n < many) → (xs.flatMap fun n => m.out n ++ m.ly n).length ≤ xs.length * 2000 := by
      intro xs
      induction xs with
      | nil => intro _; simp
      | cons n xs ih =>
        intro h
        have hn := h n List.mem_cons_self
        have bd := J.bd (n : Int)
        have := ih fun j hj => h j (List.mem_cons_of_mem _ hj)
        rw [List.flatMap_cons, List.length_append, List.length_append, List.length_cons, q.ly n hn, q.out n hn]
        omega
    have := this (List.range many) fun n hn => List.mem_range.mp hn
    rw [List.length_range] at this
    omega
  have ow := of_letters (S := Wf c A s R) (Ls.of ((List.range many).flatMap fun n => m.out n ++ m.ly n)) wl
  have ew : ((List.range many).flatMap fun n => m.out n ++ m.ly n) = (List.range many).flatMap fun n : Nat => lts (gl s.out (n : Int)) ++ lts (gl s.ly (n : Int)) := by
    have : ∀ xs : List Nat, (∀ n ∈ xs, n < many) → (xs.flatMap fun n => m.out n ++ m.ly n) = xs.flatMap fun n : Nat => lts (gl s.out (n : Int)) ++ lts (gl s.ly (n : Int)) := by
      intro xs
      induction xs with
      | nil => intro _; rfl
      | cons n xs ih =>
        intro h
        have hn := h n List.mem_cons_self
        rw [List.flatMap_cons, List.flatMap_cons, ih fun j hj => h j (List.mem_cons_of_mem _ hj), q.ly n hn, q.out n hn]
    exact this _ fun n hn => List.mem_range.mp hn
  generalize hw : ((List.range many).flatMap fun n => m.out n ++ m.ly n) = w at *
  have hd : snE c A [] none none = [some (.ref A.length), some (st3 A), some (.dct (dz c.h)), some (.int c.room), some (.ref (A.length + 3)), some (.ref (A.length + 3 + 1)), some (.ref (A.length + 3 + 2)), some (.lst []), none, none] := rfl
  rw [hd] at sk fs
  by_cases hl : s.left = []
  · have cm : FFrame_comes [.ref A.length] (Wf c A s R) = .ok (tpD rowD (cmF c s)) (Wf c A s R) := comes_is (show b ≤ 10000 by omega) I hh hl
    have wa : cmF c s = hpL w := by
      rw [ew]
      subst hc
      exact want_is J hm hl hz
    rw [wa] at cm
    have en := lz.nil false
    rw [q.left, hl] at en
    have tr : sTry0 [("NotDone", true)] (sSet 9 (eMeth "Frame" "comes" FFrame_comes (eVar 0) [])) (fun _ => (sRet (e2 (eqD true) (eVar 4) (eAno (nLst []))))) (snE c A w none none) (Wf c A s R) = .next (snE c A w none (some (tpD rowD (hpL w)))) (Wf c A s R) := try0_ok (by
      simp only [snE, goS, ap_Meth, i3, if_true, cm])
    simp only [F_law_seen, runD, b_law_seen, startE_4t, goS, ap_AsgL, s3_lv, ap_Meth, i1, i2, if_true, w1, w2, no, Bool.false_eq_true, if_false, re, ol, ne_tp]
    rw [sk]
    simp only [goS]
    rw [fs]
    simp only [goS, snE]
    simp only [snE] at tr
    rw [tr]
    simp only [goS, en, ow, eq_tp, show decide (lts ([] : Rw) = []) = true from rfl, Bool.false_eq_true, if_false, if_true]
    exact fin_same rfl
  · have cn : FFrame_comes [.ref A.length] (Wf c A s R) = .exc "NotDone" (Wf c A s R) := comes_no hl
    have en := lz.nil true
    have ml : m.left ≠ [] := fun e => hl (by
      rw [q.left] at e
      have := hpL_of I.hl
      rw [e] at this
      rw [← this]
      rfl)
    rw [decide_eq_false ml] at en
    have tr : sTry0 [("NotDone", true)] (sSet 9 (eMeth "Frame" "comes" FFrame_comes (eVar 0) [])) (fun _ => (sRet (e2 (eqD true) (eVar 4) (eAno (nLst []))))) (snE c A w none none) (Wf c A s R) = .ret (.bl true) (Wf c A s R) := try0_gotr (x := "NotDone") (e1 := snE c A w none none) (S1 := Wf c A s R) (by
      simp only [snE, goS, ap_Meth, i3, if_true, cn]
      rfl) (by decide +kernel) (by
      simp only [snE, goS, en]
      rfl)
    simp only [F_law_seen, runD, b_law_seen, startE_4t, goS, ap_AsgL, s3_lv, ap_Meth, i1, i2, if_true, w1, w2, no, Bool.false_eq_true, if_false, re, ol, ne_tp]
    rw [sk]
    simp only [goS]
    rw [fs]
    simp only [goS, snE]
    simp only [snE] at tr
    rw [tr]
    simp only [goS]
    exact fin_same rfl
end
structure Rc (many : Nat) (m : Lm) (R : Sto) (r : Nat) (y : Int) : Prop where
  at_ : R[r]? = some (.lst [.int y])
  ge : 3 ≤ r
  ne : ∀ n, n < many → m.ad n ≠ r
theorem Rc.set {many : Nat} {m : Lm} {R : Sto} {r : Nat} {y : Int} (h : Rc many m R r y) (y' : Int) : Rc many m (R.set r (.lst [.int y'])) r y' := ⟨List.getElem?_set_self (List.getElem?_eq_some_iff.mp h.at_).1, h.ge, h.ne⟩
theorem Bs.oth {off many : Nat} {m : Lm} {R : Sto} (B : Bs off many m R) {r : Nat} (h3 : 3 ≤ r) (hr : ∀ n, n < many → m.ad n ≠ r) (o : DO) : Bs off many m (R.set r o) := by
  have at_ : ∀ i, i ≠ r → (R.set r o)[i]? = R[i]? := fun i hi => List.getElem?_set_ne (Ne.symm hi)
  exact ⟨(at_ 0 (by omega)).trans B.l, (at_ 1 (by omega)).trans B.y, (at_ 2 (by omega)).trans B.o, fun n hn => (at_ _ (hr n hn)).trans (B.b n hn), B.ge, B.inj⟩
noncomputable def tkL (m : Lm) (n a : Nat) : Lm := ⟨m.left, fun j => if j = n then a else m.ad j, fun j => if j = n then [] else m.ly j, fun j => if j = n then m.out n ++ m.ly n else m.out j⟩
noncomputable def tkR1 (many : Nat) (m : Lm) (n : Nat) (R : Sto) : Sto := R.set 2 (.dct (ouD many (tkL m n R.length)))
noncomputable def tkR (off many : Nat) (m : Lm) (n : Nat) (R : Sto) : Sto := (tkR1 many m n R ++ [DO.lst []]).set 1 (.dct (lyD off many (tkL m n R.length)))
theorem tkR_oth {off many : Nat} {m : Lm} {n : Nat} {R : Sto} {i : Nat} (h1 : i ≠ 1) (h2 : i ≠ 2) (hl : i < R.length) : (tkR off many m n R)[i]? = R[i]? := by
  unfold tkR tkR1
  rw [List.getElem?_set_ne (Ne.symm h1), List.getElem?_append_left (by rw [List.length_set]; exact hl), List.getElem?_set_ne (Ne.symm h2)]
theorem Bs.take {off many : Nat} {m : Lm} {R : Sto} (B : Bs off many m R) {n : Nat} (hn : n < many) : Bs off many (tkL m n R.length) (tkR off many m n R) := by
  have l0 := B.l0
  refine ⟨?_, ?_, ?_, fun j hj => ?_, fun j hj => ?_, fun i j hi hj e => ?_⟩
  · rw [tkR_oth (by omega) (by omega) (by omega)]; exact B.l
  · unfold tkR
    exact List.getElem?_set_self (by rw [List.length_append, tkR1, List.length_set]; omega)
  · unfold tkR
    rw [List.getElem?_set_ne (by omega), List.getElem?_append_left (by rw [tkR1, List.length_set]; omega)]
    exact List.getElem?_set_self (by omega)
  · show (tkR off many m n R)[if j = n then R.length else m.ad j]? = some (.lst ((if j = n then [] else m.ly j).map D.int))
    by_cases e : j = n
    · rw [if_pos e, if_pos e]
      unfold tkR
      rw [List.getElem?_set_ne (by omega), List.getElem?_append_right (by rw [tkR1, List.length_set]; exact Nat.le_refl _), tkR1, List.length_set, Nat.sub_self]
      rfl
    · have g := B.ge j hj
      rw [if_neg e, if_neg e, tkR_oth (by omega) (by omega) (B.lt hj)]
      exact B.b j hj
  · show 3 ≤ if j = n then R.length else m.ad j
    have g := B.ge j hj
    split <;> omega
  · have e : (if i = n then R.length else m.ad i) = if j = n then R.length else m.ad j := e
    have l1 := B.lt hi
    have l2 := B.lt hj
    by_cases e1 : i = n
    · by_cases e2 : j = n
      · rw [e1, e2]
      · rw [if_pos e1, if_neg e2] at e
        omega
    · by_cases e2 : j = n
      · rw [if_neg e1, if_pos e2] at e
        omega
      · rw [if_neg e1, if_neg e2] at e
        exact B.inj i j hi hj e
theorem rgD_congr {many : Nat} {f g : Nat → D} (h : ∀ n, f n = g n) : rgD many f = rgD many g := by rw [show f = g from funext h]
section
variable {c : Fc} {A R : Sto} {s f0 : FS} {many b : Nat} {m : Lm} {rs : Rw}
theorem dgW {r : Nat} {y mm : Int} (h : Rc many m R r y) (h0 : 0 < mm) (hl : mm.natAbs.log2 < 9000) : F_law_digit [.ref (A.length + 3 + r), .int mm] (Wf c A s R) = .ok (.int (y % mm)) (Wf c A s (R.set r (.lst [.int (y / mm)]))) := by
  have hat : (Wf c A s R)[A.length + 3 + r]? = some (.lst [.int y]) := (Wf_beh r).trans h.at_
  have hk := (List.getElem?_eq_some_iff.mp hat).1
  have d := dig (x := y) (m := mm) hk h0 hl
  rw [Dg_of hat] at d
  rw [d]
  unfold Dg
  rw [Wf_setB]
theorem Mq.take (q : Mq many s m) {n : Nat} (hn : n < many) (a : Nat) : Mq many (tkF s n) (tkL m n a) := ⟨q.left, fun j hj => by
  show (if j = n then [] else m.ly j) = lts (gl (s.ly.filter fun p => decide (p.1 ≠ (n : Int))) (j : Int))
  rw [gl_drop]
  by_cases e : j = n
  · rw [if_pos e, if_pos (by rw [e])]; rfl
  · rw [if_neg e, if_neg (by omega), q.ly j hj], fun j hj => by
  show (if j = n then m.out n ++ m.ly n else m.out j) = lts (gl (pt s.out (n : Int) (hp (gl s.out n ++ gl s.ly n))) (j : Int))
  rw [gl_pt]
  by_cases e : j = n
  · rw [if_pos e, if_pos (by rw [e]), lts_hp, lts_app, q.out n hn, q.ly n hn]
  · rw [if_neg e, if_neg (by omega), q.out j hj]⟩
theorem lw_facts (C : Cf c many) (m6 : many ≤ 6) (I : FrI c b s) (hb : b ≤ 9000) (J : FrJ c rs s) (hL : (lts rs).length ≤ 1000) (q : Mq many s m) (B : Bs (A.length + 3) many m R) {n : Nat} (hn : n < many) :
    ixD (.ref (A.length + 3 + 1)) (.int (n : Int)) (Wf c A s R) = .ok (.ref (A.length + 3 + m.ad n)) (Wf c A s R) ∧
    F_law_of_letters [.ref (A.length + 3 + m.ad n)] (Wf c A s R) = .ok (tpD rowD (gl s.ly (n : Int))) (Wf c A s R) ∧
    ixD (.ref (A.length + 3 + 2)) (.int (n : Int)) (Wf c A s R) = .ok (.lst ((m.out n).map D.int)) (Wf c A s R) ∧
    addD (.lst ((m.out n).map D.int)) (.ref (A.length + 3 + m.ad n)) (Wf c A s R) = .ok (.lst ((m.out n ++ m.ly n).map D.int)) (Wf c A s R) ∧
    stD (.ref (A.length + 3 + 2)) (.int (n : Int)) (.lst ((m.out n ++ m.ly n).map D.int)) (Wf c A s R) = some (Wf c A s (tkR1 many m n R)) ∧
    (Wf c A s (tkR1 many m n R)).length = A.length + 3 + R.length ∧ Wf c A s (tkR1 many m n R) ++ [DO.lst []] = Wf c A s (tkR1 many m n R ++ [DO.lst []]) ∧
    stD (.ref (A.length + 3 + 1)) (.int (n : Int)) (.ref (A.length + 3 + R.length)) (Wf c A s (tkR1 many m n R ++ [DO.lst []])) = some (Wf c A s (tkR (A.length + 3) many m n R)) ∧
    isM "Frame" "take" (.ref A.length) (Wf c A s (tkR (A.length + 3) many m n R)) = true ∧
    FFrame_take [.ref A.length, .int (n : Int)] (Wf c A s (tkR (A.length + 3) many m n R)) = .ok (tpD rowD (gl s.ly (n : Int))) (Wf c A (tkF s n) (tkR (A.length + 3) many m n R)) := by
  have l0 := B.l0
  have bd := J.bd (n : Int)
  have e1 := q.ly n hn
  have e2 := q.out n hn
  have o1 := of_letters (ls_b (c := c) (s := s) B hn) (by rw [e1]; omega)
  rw [e1, hpL_of (I.hy _)] at o1
  have tk1 : ∀ (R' : Sto) (f : Nat → D) (v : D) (k : Nat), R'[k]? = some (.dct (rgD many f)) → stD (.ref (A.length + 3 + k)) (.int (n : Int)) v (Wf c A s R') = some (Wf c A s (R'.set k (.dct (rgD many fun j => if j = n then v else f j)))) := fun R' f v k hk => by
    have hat : (Wf c A s R')[A.length + 3 + k]? = some (.dct (rgD many f)) := (Wf_beh k).trans hk
    have : stD (.ref (A.length + 3 + k)) (.int (n : Int)) v (Wf c A s R') = if (rgD many f).length < sizeLine then some ((Wf c A s R').set (A.length + 3 + k) (.dct (putD (rgD many f) (.inl (n : Int)) v))) else none := by
      simp [stD, hat, Pu.keyOf]
    rw [this, if_pos (sz (by rw [rg_len]; omega)), rg_put f hn, Wf_setB]
  refine ⟨ix_y B hn, o1, ix_o B hn, (Ls.of (m.out n)).add (ls_b (c := c) (s := s) B hn) (by rw [e1, e2]; omega), ?_, ?_, Wf_app, ?_, is_take, ?_⟩
  · have e : (rgD many fun j => if j = n then D.lst ((m.out n ++ m.ly n).map D.int) else D.lst ((m.out j).map D.int)) = ouD many (tkL m n R.length) := rgD_congr fun j => by
      show _ = D.lst ((if j = n then m.out n ++ m.ly n else m.out j).map D.int)
      by_cases e : j = n
      · rw [if_pos e, if_pos e]
      · rw [if_neg e, if_neg e]
    rw [tk1 R _ _ 2 B.o, e]
    rfl
  · rw [Wf_len, tkR1, List.length_set]; omega
  · have hy : (tkR1 many m n R ++ [DO.lst []])[1]? = some (.dct (lyD (A.length + 3) many m)) := by
      rw [List.getElem?_append_left (by rw [tkR1, List.length_set]; omega), tkR1, List.getElem?_set_ne (by omega)]
      exact B.y
    have e : (rgD many fun j => if j = n then D.ref (A.length + 3 + R.length) else D.ref (A.length + 3 + m.ad j)) = lyD (A.length + 3) many (tkL m n R.length) := rgD_congr fun j => by
      show _ = D.ref (A.length + 3 + if j = n then R.length else m.ad j)
      by_cases e : j = n
      · rw [if_pos e, if_pos e]
      · rw [if_neg e, if_neg e]
    rw [tk1 _ _ _ 1 hy, e]
    rfl
  · exact take_is (show b ≤ 100000 by omega) I (Int.natCast_nonneg n) (by rw [C.m]; omega)
theorem startE_5 (a b c d e : D) : startE 12 [a, b, c, d, e] = [some a, some b, some c, some d, some e, none, none, none, none, none, none, none] := rfl
theorem fin_kp (S : Sto) (d : D) (S' : Sto) : fin .keep S d S' = .ok d S' := rfl
theorem lw_done (C : Cf c many) (m0 : 0 < many) (m6 : many ≤ 6) (I : FrI c b s) (hb : b ≤ 8000) (J : FrJ c rs s) (hL : (lts rs).length ≤ 1000) (ht : tot s.left ≤ 1000) (q : Mq many s m) (B : Bs (A.length + 3) many m R) {r : Nat} {y : Int} (D0 : Rc many m R r y) :
    ∃ (s' : FS) (m' : Lm) (R' : Sto) (y' : Int), FrI c (b + 1) s' ∧ FrJ c rs s' ∧ tot s'.left ≤ 1000 ∧ Mq many s' m' ∧ Bs (A.length + 3) many m' R' ∧ Rc many m' R' r y' ∧
      F_law_done [.ref A.length, st3 A, .dct (dz c.h), .int c.room, .ref (A.length + 3 + r)] (Wf c A s R) = .ok (.bl true) (Wf c A s' R') := by
  have l9 : ∀ k : Int, 0 < k → k ≤ 40 → k.natAbs.log2 < 9000 := fun k h0 h1 => log_lt h0 (Int.le_trans h1 (by decide))
  have d3 := dgW (c := c) (A := A) (s := s) (mm := 3) D0 (by decide) (by decide +kernel)
  have D1 := D0.set (y / 3)
  by_cases h3 : 0 < y % 3
  · have p3 := decide_eq_true h3
    have d3b := dgW (c := c) (A := A) (s := s) (mm := 3) D1 (by decide) (by decide +kernel)
    have D2 := D1.set (y / 3 / 3)
    obtain ⟨p, hp0, ha⟩ := lit_at3 (ms := [2, 5, 40]) (x := y / 3) (m := 3) rfl (by decide)
    have ha' : ∀ S, ixD (.tup [.int 2, .int 5, .int 40]) (.int (y / 3 % 3)) S = .ok (.int p) S := fun S => by
      rw [ixD_tup]
      have : atI [D.int 2, D.int 5, D.int 40] (y / 3 % 3) = some (.int p) := ha
      rw [this]
      rfl
    have p40 : 0 < p ∧ p ≤ 40 := by
      simp only [List.mem_cons, List.not_mem_nil, or_false] at hp0
      rcases hp0 with rfl | rfl | rfl <;> decide
    have dp := dgW (c := c) (A := A) (s := s) (mm := p) D2 p40.1 (l9 p p40.1 p40.2)
    have D3 := D2.set (y / 3 / 3 / p)
    have B3 := ((B.oth D0.ge D0.ne (.lst [.int (y / 3)])).oth D0.ge D0.ne (.lst [.int (y / 3 / 3)])).oth D0.ge D0.ne (.lst [.int (y / 3 / 3 / p)])
    generalize y / 3 / 3 % p = w at *
    generalize ((R.set r (.lst [.int (y / 3)])).set r (.lst [.int (y / 3 / 3)])).set r (.lst [.int (y / 3 / 3 / p)]) = R3 at *
    have fe : FFrame_feed [.ref A.length, .int w] (Wf c A s R3) = .ok (.int (fed c s w).2) (Wf c A (fed c s w).1 R3) := feed_is w (show b ≤ 10000 by omega) I
    obtain ⟨m', R', q', B', C', e', lf⟩ := lw_fed (A := A) (f0 := (fed c s w).1) C w I q B3
    have im : isM "Frame" "feed" (.ref A.length) (Wf c A s R3) = true := is_feed
    obtain ⟨J1, T1⟩ := FrJ.fd (n := w) ((tot s.left).toNat + 1) (came := 0) I J
    have n1 := fd_nn (n := w) ((tot s.left).toNat + 1) (came := 0) I (Int.le_refl _)
    have I1 : FrI c (b + 1) (fed c s w).1 := fd_keeps _ I
    refine ⟨(fed c s w).1, m', R', y / 3 / 3 / p, I1, J1, ?_, q', B', ⟨?_, D3.ge, fun n hn => by rw [e']; exact D3.ne n hn⟩, ?_⟩
    · show tot (fdN c w ((tot s.left).toNat + 1) (s, 0)).1.left ≤ _
      omega
    · rw [C'.oth r (by have := D3.ge; omega) D3.ne]
      exact D3.at_
    · simp only [F_law_done, runD, b_law_done, startE_5, goS, ap_AsgL, s3_lv, d3, gtD_i, p3, if_true, d3b, ha', dp, ap_Meth, im, fe, lf, eqD_int, decide_true]
      exact fin_kp _ _ _
  · have p3 := decide_eq_false h3
    have B1 := B.oth D0.ge D0.ne (.lst [.int (y / 3)])
    have ns : nSort (eVar 6) [some (.ref A.length), some (st3 A), some (.dct (dz c.h)), some (.int c.room), some (.ref (A.length + 3 + r)), some (.ref (A.length + 3)), some (.ref (A.length + 3 + 1)), some (.ref (A.length + 3 + 2)), none, none, none, none] (Wf c A s (R.set r (.lst [.int (y / 3)]))) = .ok (.lst (((List.range many).map fun n : Nat => (n : Int)).map D.int)) (Wf c A s (R.set r (.lst [.int (y / 3)]))) := by
      have := nSort_dct (f := eVar 6) (e := [some (.ref A.length), some (st3 A), some (.dct (dz c.h)), some (.int c.room), some (.ref (A.length + 3 + r)), some (.ref (A.length + 3)), some (.ref (A.length + 3 + 1)), some (.ref (A.length + 3 + 2)), none, none, none, none]) (S := Wf c A s (R.set r (.lst [.int (y / 3)]))) (d := .ref (A.length + 3 + 1)) rfl (dcR (wf_y B1)) (rg_keys _ many) (by simp; omega)
      rw [this, ← uniq_le ((ints_of many).imp Int.le_of_lt) (pw_sortI _) (perm_sortI _).symm]
    have ln : lenD [.ref (A.length + 3 + 1)] (Wf c A s (R.set r (.lst [.int (y / 3)]))) = .ok (.int (many : Nat)) (Wf c A s (R.set r (.lst [.int (y / 3)]))) := by
      simp only [lenD, dcR (wf_y (c := c) (s := s) B1), lyD, rg_len]
    have dm := dgW (c := c) (A := A) (s := s) (mm := (many : Int)) D1 (by omega) (l9 _ (by omega) (by omega))
    have D2 := D1.set (y / 3 / (many : Int))
    have B2 := B1.oth D0.ge D0.ne (.lst [.int (y / 3 / (many : Int))])
    have b0 : 0 ≤ y / 3 % (many : Int) := Int.emod_nonneg _ (by omega)
    have b1 : y / 3 % (many : Int) < (many : Int) := Int.emod_lt_of_pos _ (by omega)
    obtain ⟨j, hj⟩ := Int.eq_ofNat_of_zero_le b0
    have jl : j < many := by omega
    have ix : ∀ S, ixD (.lst (((List.range many).map fun n : Nat => (n : Int)).map D.int)) (.int (y / 3 % (many : Int))) S = .ok (.int (j : Int)) S := fun S => by
      rw [ixD_lst, hj, atI_cast, List.getElem?_map, List.getElem?_map, List.getElem?_range jl]
      rfl
    have lw := lw_waits (A := A) (f0 := s) C I q B2
    have fin_ : ∀ {n : Nat} (hn : n < many) {R2 : Sto} {y2 : Int} (B2 : Bs (A.length + 3) many m R2) (D2 : Rc many m R2 r y2), FrI c (b + 1) (tkF s n) ∧ FrJ c rs (tkF s n) ∧ tot (tkF s n).left ≤ 1000 ∧ Mq many (tkF s n) (tkL m n R2.length) ∧ Bs (A.length + 3) many (tkL m n R2.length) (tkR (A.length + 3) many m n R2) ∧ Rc many (tkL m n R2.length) (tkR (A.length + 3) many m n R2) r y2 := fun {n} hn {R2} {y2} B2 D2 =>
      ⟨I.take n, J.take n, ht, q.take hn _, B2.take hn, ⟨by
        have := (List.getElem?_eq_some_iff.mp D2.at_).1
        rw [tkR_oth (by have := D2.ge; omega) (by have := D2.ge; omega) this]
        exact D2.at_, D2.ge, fun i hi => by
        show (if i = n then R2.length else m.ad i) ≠ r
        have := (List.getElem?_eq_some_iff.mp D2.at_).1
        have := D2.ne i hi
        split <;> omega⟩⟩
    cases hw : waF c s with
    | none =>
      rw [hw] at lw
      obtain ⟨r1, r2, r3, r4, r5, r6⟩ := fin_ jl B2 D2
      obtain ⟨x1, x2, x3, x4, x5, x6, x7, x8, x9, x10⟩ := lw_facts C m6 I (show b ≤ 9000 by omega) J hL q B2 jl
      refine ⟨_, _, _, _, r1, r2, r3, r4, r5, r6, ?_⟩
      simp only [F_law_done, runD, b_law_done, startE_5, goS, ap_AsgL, s3_lv, d3, gtD_i, p3, Bool.false_eq_true, if_false, ns, ln, dm, ix, lw, oI, isND_ap, isN_non, if_true, Bool.not_true, x1, x2, x3, x4, x5, x6, x7, x8, ap_Meth, x9, x10, eq_tp]
      exact fin_kp _ _ _
    | some w =>
      rw [hw] at lw
      obtain ⟨k, x, rr, e1, e2, e3⟩ := waF_some hw
      have hk : (getZ c.h k).isSome = true := I.ks (k, x) (by rw [e1]; exact List.mem_cons_self)
      obtain ⟨v1, v2⟩ := C.bn hk
      rw [← e2] at v1
      have d2 := dgW (c := c) (A := A) (s := s) (mm := 2) D2 (by decide) (by decide +kernel)
      have D3 := D2.set (y / 3 / (many : Int) / 2)
      have B3 := B2.oth D0.ge D0.ne (.lst [.int (y / 3 / (many : Int) / 2)])
      by_cases h4 : y / 3 / (many : Int) % 2 = 1
      · have p4 := decide_eq_true h4
        obtain ⟨r1, r2, r3, r4, r5, r6⟩ := fin_ v2 B3 D3
        obtain ⟨x1, x2, x3, x4, x5, x6, x7, x8, x9, x10⟩ := lw_facts C m6 I (show b ≤ 9000 by omega) J hL q B3 v2
        refine ⟨_, _, _, _, r1, r2, r3, r4, r5, r6, ?_⟩
        rw [v1] at x1 x3 x5 x8 x10 x2
        rw [v1]
        simp only [F_law_done, runD, b_law_done, startE_5, goS, ap_AsgL, s3_lv, d3, gtD_i, p3, Bool.false_eq_true, if_false, ns, ln, dm, ix, lw, oI, isND_ap, isN_int, if_true, Bool.not_false, d2, eqD_int, p4, x1, x2, x3, x4, x5, x6, x7, x8, ap_Meth, x9, x10, eq_tp]
        exact fin_kp _ _ _
      · have p4 := decide_eq_false h4
        obtain ⟨r1, r2, r3, r4, r5, r6⟩ := fin_ jl B3 D3
        obtain ⟨x1, x2, x3, x4, x5, x6, x7, x8, x9, x10⟩ := lw_facts C m6 I (show b ≤ 9000 by omega) J hL q B3 jl
        refine ⟨_, _, _, _, r1, r2, r3, r4, r5, r6, ?_⟩
        simp only [F_law_done, runD, b_law_done, startE_5, goS, ap_AsgL, s3_lv, d3, gtD_i, p3, Bool.false_eq_true, if_false, ns, ln, dm, ix, lw, oI, isND_ap, isN_int, if_true, Bool.not_false, d2, eqD_int, p4, x1, x2, x3, x4, x5, x6, x7, x8, ap_Meth, x9, x10, eq_tp]
        exact fin_kp _ _ _
end
theorem put_in {p : Int × Int} {h : Rw} {k v : Int} (hp : p ∈ putZ h k v) : p.2 = v ∨ p ∈ h := by
  unfold putZ at hp
  split at hp
  · obtain ⟨q, hq, e⟩ := List.mem_map.mp hp
    split at e
    · left; rw [← e]
    · right; rw [← e]; exact hq
  · rcases List.mem_append.mp hp with hp | hp
    · exact .inr hp
    · left; rw [List.mem_singleton.mp hp]
theorem home_val2 : ∀ (t h : Rw) (p : Int × Int), p ∈ t.foldl (fun h r => putZ h r.1 r.2) h → p.2 ∈ t.map (·.2) ∨ p ∈ h
  | [], h, p, e => .inr e
  | r :: t, h, p, e => by
    rcases home_val2 t _ p e with h1 | h1
    · exact .inl (List.mem_cons_of_mem _ h1)
    · rcases put_in h1 with h2 | h2
      · exact .inl (by rw [h2]; exact List.mem_cons_self)
      · exact .inr h2
theorem rg_new (f : Nat → D) (i : Nat) (v : D) : putD (rgD i f) (.inl (i : Int)) v = rgD i f ++ [(.inl (i : Int), v)] := by
  unfold putD
  rw [if_neg]
  unfold rgD
  rw [List.any_map, List.any_eq_true]
  rintro ⟨n, hn, e⟩
  have hn := List.mem_range.mp hn
  have e : (Sum.inl (n : Int) : Key) = Sum.inl (i : Int) := of_decide_eq_true e
  have := Sum.inl.inj e
  omega
theorem rg_succ (f : Nat → D) (i : Nat) : rgD (i + 1) f = rgD i f ++ [(.inl (i : Int), f i)] := by
  unfold rgD
  rw [List.range_succ, List.map_append]
  rfl
noncomputable def m0 (l : List Int) : Lm := ⟨l, fun n => 3 + n, fun _ => [], fun _ => []⟩
noncomputable def R0 (off : Nat) (l : List Int) (i : Nat) : Sto := [.lst (l.map D.int), .dct (lyD off i (m0 l)), .dct (ouD i (m0 l))] ++ List.replicate i (.lst [])
theorem R0_len (off : Nat) (l : List Int) (i : Nat) : (R0 off l i).length = 3 + i := by
  unfold R0
  rw [List.length_append, List.length_replicate]
  rfl
theorem R0_bs (off : Nat) (l : List Int) (many : Nat) : Bs off many (m0 l) (R0 off l many) := ⟨rfl, rfl, rfl, fun n hn => by
  show (R0 off l many)[3 + n]? = some (DO.lst [])
  unfold R0
  rw [List.getElem?_append_right (by show 3 ≤ 3 + n; omega)]
  show (List.replicate many (DO.lst []))[3 + n - 3]? = _
  rw [Nat.add_sub_cancel_left, List.getElem?_replicate, if_pos hn], fun n _ => Nat.le_add_right 3 n, fun i j _ _ e => Nat.add_left_cancel e⟩
section
variable {c : Fc} {A R : Sto} {s : FS} {many b : Nat} {m : Lm} {rs : Rw}
theorem law_bin (ns : List Int) (d1 d2 d3 : D) (l : List Int) (i : Nat) (hi : i < 6) :
    turn [7] (.nm 7) blaw_1 (.int (i : Int)) [some (.fls (ns.map D.int)), some d1, some d2, some d3, some (.dct (dz c.h)), some (.ref A.length), some (st3 A), none, none, none] (Wf c A s (R0 (A.length + 3) l i)) =
      .next [some (.fls (ns.map D.int)), some d1, some d2, some d3, some (.dct (dz c.h)), some (.ref A.length), some (st3 A), none, none, none] (Wf c A s (R0 (A.length + 3) l (i + 1))) := by
  have l1 : (Wf c A s (R0 (A.length + 3) l i)).length = A.length + 3 + (3 + i) := by rw [Wf_len, R0_len]; omega
  have hy : (Wf c A s (R0 (A.length + 3) l i ++ [DO.lst []]))[A.length + 3 + 1]? = some (.dct (lyD (A.length + 3) i (m0 l))) := by
    rw [Wf_beh]
    rfl
  have s1 : stD (.ref (A.length + 3 + 1)) (.int (i : Int)) (.ref (A.length + 3 + (3 + i))) (Wf c A s (R0 (A.length + 3) l i ++ [DO.lst []])) = some (Wf c A s ((R0 (A.length + 3) l i ++ [DO.lst []]).set 1 (.dct (lyD (A.length + 3) (i + 1) (m0 l))))) := by
    have : stD (.ref (A.length + 3 + 1)) (.int (i : Int)) (.ref (A.length + 3 + (3 + i))) (Wf c A s (R0 (A.length + 3) l i ++ [DO.lst []])) = if (lyD (A.length + 3) i (m0 l)).length < sizeLine then some ((Wf c A s (R0 (A.length + 3) l i ++ [DO.lst []])).set (A.length + 3 + 1) (.dct (putD (lyD (A.length + 3) i (m0 l)) (.inl (i : Int)) (.ref (A.length + 3 + (3 + i)))))) else none := by
      simp [stD, hy, Pu.keyOf]
    rw [this, if_pos (sz (by rw [lyD, rg_len]; omega)), Wf_setB]
    unfold lyD
    rw [rg_new, rg_succ]
    rfl
  have ho : (Wf c A s ((R0 (A.length + 3) l i ++ [DO.lst []]).set 1 (.dct (lyD (A.length + 3) (i + 1) (m0 l)))))[A.length + 3 + 2]? = some (.dct (ouD i (m0 l))) := by
    rw [Wf_beh]
    rfl
  have s2 : stD (.ref (A.length + 3 + 2)) (.int (i : Int)) (.lst []) (Wf c A s ((R0 (A.length + 3) l i ++ [DO.lst []]).set 1 (.dct (lyD (A.length + 3) (i + 1) (m0 l))))) = some (Wf c A s (R0 (A.length + 3) l (i + 1))) := by
    have : stD (.ref (A.length + 3 + 2)) (.int (i : Int)) (.lst []) (Wf c A s ((R0 (A.length + 3) l i ++ [DO.lst []]).set 1 (.dct (lyD (A.length + 3) (i + 1) (m0 l))))) = if (ouD i (m0 l)).length < sizeLine then some ((Wf c A s ((R0 (A.length + 3) l i ++ [DO.lst []]).set 1 (.dct (lyD (A.length + 3) (i + 1) (m0 l))))).set (A.length + 3 + 2) (.dct (putD (ouD i (m0 l)) (.inl (i : Int)) (.lst [])))) else none := by
      simp [stD, ho, Pu.keyOf]
    rw [this, if_pos (sz (by rw [ouD, rg_len]; omega)), Wf_setB]
    have e : putD (ouD i (m0 l)) (.inl (i : Int)) (.lst []) = ouD (i + 1) (m0 l) := by
      unfold ouD
      rw [rg_new, rg_succ]
      rfl
    rw [e]
    unfold R0
    rw [List.replicate_succ']
    rfl
  have bt : bindT (.nm 7) (.int (i : Int)) [some (.fls (ns.map D.int)), some d1, some d2, some d3, some (.dct (dz c.h)), some (.ref A.length), some (st3 A), none, none, none] = some [some (.fls (ns.map D.int)), some d1, some d2, some d3, some (.dct (dz c.h)), some (.ref A.length), some (st3 A), some (.int (i : Int)), none, none] := rfl
  unfold turn
  rw [bt]
  simp only [blaw_1, goS, ap_nLst, s3_1, s3_2, l1, Wf_app, s1, s2]
theorem law_turn (ns : List Int) {t : Rw} {room : Int} (hc : c = ⟨homeZ t, many, room⟩) (hm : ∀ r ∈ rs, r.1 ∈ t.map (·.1)) (hz : ∀ v ∈ (homeZ t).map (·.2), 0 ≤ v ∧ v < (many : Int)) (hh : c.h.length < 64) (m1 : 0 < many) (m6 : many ≤ 6) (C : Cf c many) (I : FrI c b s) (hb : b ≤ 7000) (J : FrJ c rs s) (hL : (lts rs).length ≤ 1000) (ht : tot s.left ≤ 1000) (q : Mq many s m) (B : Bs (A.length + 3) many m R) (d1 d2 : D) (i : Nat) (hi : i < 12) :
    ∃ (s' : FS) (m' : Lm) (R' : Sto), FrI c (b + 1) s' ∧ FrJ c rs s' ∧ tot s'.left ≤ 1000 ∧ Mq many s' m' ∧ Bs (A.length + 3) many m' R' ∧
      turn [8, 9] (.nm 8) blaw_2 (.int (i : Int)) [some (.fls (ns.map D.int)), some d1, some d2, some (.int c.room), some (.dct (dz c.h)), some (.ref A.length), some (st3 A), none, none, none] (Wf c A s R) = .next [some (.fls (ns.map D.int)), some d1, some d2, some (.int c.room), some (.dct (dz c.h)), some (.ref A.length), some (st3 A), none, none, none] (Wf c A s' R') := by
  obtain ⟨N, _, qN⟩ := big ns (14 + i) (by omega) (Wf c A s R)
  have ci : ((14 + i : Nat) : Int) = 14 + (i : Int) := by omega
  rw [ci] at qN
  have l0 := B.l0
  have lW : (Wf c A s R).length = A.length + 3 + R.length := by rw [Wf_len]; omega
  have B1 : Bs (A.length + 3) many m (R ++ [DO.lst [.int N]]) := ⟨by rw [List.getElem?_append_left (by omega)]; exact B.l, by rw [List.getElem?_append_left (by omega)]; exact B.y, by rw [List.getElem?_append_left (by omega)]; exact B.o, fun n hn => by rw [List.getElem?_append_left (B.lt hn)]; exact B.b n hn, B.ge, B.inj⟩
  have D1 : Rc many m (R ++ [DO.lst [.int N]]) R.length N := ⟨by rw [List.getElem?_append_right (Nat.le_refl _), Nat.sub_self]; rfl, by omega, fun n hn => Nat.ne_of_lt (B.lt hn)⟩
  obtain ⟨s', m', R', y', r1, r2, r3, r4, r5, r6, qd⟩ := lw_done (A := A) C m1 m6 I (show b ≤ 8000 by omega) J hL ht q B1 D1
  have dg := dgW (c := c) (A := A) (s := s') (mm := 3) r6 (by decide) (by decide +kernel)
  have B2 := r5.oth r6.ge r6.ne (.lst [.int (y' / 3)])
  have sn := lw_seen (A := A) hc hm hz hh m6 (show b + 1 ≤ 9000 by omega) C r1 r2 hL r3 r4 B2
  have bt : bindT (.nm 8) (.int (i : Int)) [some (.fls (ns.map D.int)), some d1, some d2, some (.int c.room), some (.dct (dz c.h)), some (.ref A.length), some (st3 A), none, none, none] = some [some (.fls (ns.map D.int)), some d1, some d2, some (.int c.room), some (.dct (dz c.h)), some (.ref A.length), some (st3 A), none, some (.int (i : Int)), none] := rfl
  refine ⟨s', m', R'.set R.length (.lst [.int (y' / 3)]), r1, r2, r3, r4, B2, ?_⟩
  unfold turn
  rw [bt]
  by_cases h3 : 0 < y' % 3
  · have p3 := decide_eq_true h3
    simp only [blaw_2, goS, addD_int, qN, ap_nLst, lW, Wf_app, qd, dg, gtD_i, p3, if_true, sn, Bool.not_true, Bool.false_eq_true, if_false]
  · have p3 := decide_eq_false h3
    simp only [blaw_2, goS, addD_int, qN, ap_nLst, lW, Wf_app, qd, dg, gtD_i, p3, Bool.not_true, Bool.false_eq_true, if_false]
theorem law_letters (rs : Rw) (hp : ∀ q ∈ rs, 0 < q.2) (hl : rs.length < 1000) (hb : (lts rs).length < 2000) (S : Sto) : F_law_letters [tpD rowD rs] S = .ok (.ref S.length) (S ++ [.lst ((lts rs).map D.int)]) := by
  have lp : ∀ (xs : Rw) (f : List Int) (T : Sto) (k : Nat), (∀ q ∈ xs, 0 < q.2) → f.length + (lts xs).length < 4000 → S.length ≤ k → (S ++ T)[k]? = some (.lst (f.map D.int)) →
      ∃ (T' : Sto) (k' : Nat), S.length ≤ k' ∧ (S ++ T')[k']? = some (.lst ((f ++ lts xs).map D.int)) ∧ forD [2, 3] (.tp [.nm 2, .nm 3]) (.tmp (rs.map rowD)) b_law_letters_1 (xs.map rowD) [some (tpD rowD rs), some (.ref k), none, none] (S ++ T) = .next [some (tpD rowD rs), some (.ref k'), none, none] (S ++ T') := by
    intro xs
    induction xs with
    | nil =>
      intro f T k _ _ hk h
      exact ⟨T, k, hk, by rw [show lts ([] : Rw) = [] from rfl, List.append_nil]; exact h, forD_nil trivial⟩
    | cons x xs ih =>
      intro f T k hx hf hk h
      have x0 := hx x List.mem_cons_self
      rw [lts_cons, List.length_append, List.length_replicate] at hf
      obtain ⟨key, mm⟩ := x
      simp only at x0 hf
      have hb : bindT (.tp [.nm 2, .nm 3]) (rowD (key, mm)) [some (tpD rowD rs), some (.ref k), none, none] = some [some (tpD rowD rs), some (.ref k), some (.int key), some (.int mm)] := rfl
      have hm : ∀ S, mulD (.lst [.int key]) (.int mm) S = .ok (.lst ((List.replicate mm.toNat key).map D.int)) S := fun S => by
        show repL (some [.int key]) mm S = _
        unfold repL
        simp only
        rw [if_pos ⟨by omega, by omega, by rw [List.length_singleton, Nat.one_mul]; exact Nat.le_of_lt (sz (by omega))⟩, List.map_replicate]
        congr 2
        simp
      have ct : catN (.ref k) (.lst ((List.replicate mm.toNat key).map D.int)) (S ++ T) = .ok (.lst ((f ++ List.replicate mm.toNat key).map D.int)) (S ++ T) := by
        unfold catN
        rw [(Ls.lv (.inr ⟨k, rfl, h⟩) : lvOf (S ++ T) (.ref k) = some (f.map D.int))]
        show (if (f.map D.int).length + ((List.replicate mm.toNat key).map D.int).length ≤ sizeLine then Res.ok (DO.lst (f.map D.int ++ (List.replicate mm.toNat key).map D.int)) (S ++ T) else .bad) = _
        rw [if_pos (by rw [List.length_map, List.length_map, List.length_replicate]; exact Nat.le_of_lt (sz (by omega))), List.map_append]
      have t : turn [2, 3] (.tp [.nm 2, .nm 3]) b_law_letters_1 (rowD (key, mm)) [some (tpD rowD rs), some (.ref k), none, none] (S ++ T) = .next [some (tpD rowD rs), some (.ref (S ++ T).length), none, none] (S ++ (T ++ [.lst ((f ++ List.replicate mm.toNat key).map D.int)])) := by
        unfold turn
        rw [hb]
        simp only [b_law_letters_1, goS, ap_nCat, hm, ct, List.append_assoc]
      obtain ⟨T', k', h1, h2, h3⟩ := ih (f ++ List.replicate mm.toNat key) (T ++ [.lst ((f ++ List.replicate mm.toNat key).map D.int)]) (S ++ T).length (fun q hq => hx q (List.mem_cons_of_mem _ hq)) (by rw [List.length_append, List.length_replicate]; omega) (by rw [List.length_append]; omega) (by rw [← List.append_assoc, List.getElem?_append_right (Nat.le_refl _), Nat.sub_self]; rfl)
      refine ⟨T', k', h1, ?_, ?_⟩
      · rw [h2, lts_cons, List.append_assoc]
      · rw [List.map_cons, forD_cons (src := .tmp _) trivial, t]
        exact h3
  obtain ⟨T', k', h1, h2, h3⟩ := lp rs [] [DO.lst []] S.length hp (by simp; omega) (Nat.le_refl _) (by rw [List.getElem?_append_right (Nat.le_refl _), Nat.sub_self]; rfl)
  rw [List.nil_append] at h2
  have q : F_law_letters [tpD rowD rs] S = fin .new S (.ref k') (S ++ T') := by
    simp only [F_law_letters, runD, b_law_letters, go0, goS]
    rw [forS_tup (xs := rs.map rowD) rfl, h3]
    simp only [goS]
  rw [q]
  simp only [fin]
  rw [if_pos ⟨.app, h1⟩, h2]
  simp only
  rw [if_pos (bel_ints _ _), List.take_left]
end
theorem math : ∀ ns : List Int, ns.length ≤ 63 → ∃ S, Flaw [.fls (ns.map D.int)] [] = .ok (.bl true) S := by
  intro ns hl
  obtain ⟨rs, t, manyI, room, hD, m6, r0, r1, qm⟩ := small ns
  obtain ⟨many, rfl⟩ := Int.eq_ofNat_of_zero_le (show 0 ≤ manyI by have := hD.m1; omega)
  have m1 : 0 < many := by have := hD.m1; omega
  have m6' : many ≤ 6 := by omega
  have hH : Heap rs := by
    have e := hp_facts rs
    rw [hD.hf.uniq e.1 e.2.symm]
    exact hp_heap rs
  have pos := hH.pos
  have hmem := hD.mem
  have hhl : (homeZ t).length < 64 := by
    have := homeZ_len t
    have := hD.tl
    omega
  have hz : ∀ v ∈ (homeZ t).map (·.2), 0 ≤ v ∧ v < (many : Int) := fun v hv => by
    obtain ⟨p, hp, rfl⟩ := List.mem_map.mp hv
    obtain ⟨r, hr, e⟩ := List.mem_map.mp (home_val2 t [] p hp |>.resolve_right (by simp))
    rw [← e]
    exact hD.bin r hr
  have hcv : ∀ k v, getZ (homeZ t) k = some v → 0 ≤ v ∧ v < (many : Int) := fun k v h => by
    rcases home_val t [] k v h with h | h
    · exact hD.bin _ h
    · cases h
  have rl := hD.len
  have hL := hD.tot
  generalize hA : ([] : Sto) = A at *
  let s0 : FS := ⟨rs, [], []⟩
  have C : Cf (⟨homeZ t, many, room⟩ : Fc) many := ⟨rfl, hcv, by show room < 1000; omega⟩
  have tot1 : tot rs ≤ 1000 := by
    have tl : tot rs = (lts rs).length := tot_ltsR pos
    omega
  have ini1 := init_is A rs t many room (by omega) hmem
  have I0 : FrI (⟨homeZ t, many, room⟩ : Fc) rs.length s0 := init_I hH hmem r0
  have q0 : Mq many s0 (m0 (lts rs)) := ⟨rfl, fun n _ => rfl, fun n _ => rfl⟩
  have J0 : FrJ (⟨homeZ t, many, room⟩ : Fc) rs s0 := FrJ.ini _ rs
  have B0 := R0_bs (A.length + 3) (lts rs) many
  have sn0 := lw_seen (A := A) (c := (⟨homeZ t, many, room⟩ : Fc)) rfl hmem hz hhl m6' (show rs.length ≤ 9000 by omega) C I0 J0 (by omega) tot1 q0 B0
  obtain ⟨v, hv1, hv2⟩ : ∃ v : Nat, maxI 3 (minI 12 ((ns.length : Nat) - 14)) = (v : Int) ∧ v ≤ 12 := by
    have h1 : 3 ≤ maxI 3 (minI 12 ((ns.length : Nat) - 14)) ∧ maxI 3 (minI 12 ((ns.length : Nat) - 14)) ≤ 12 := by
      unfold maxI minI
      split <;> split <;> omega
    exact ⟨(maxI 3 (minI 12 ((ns.length : Nat) - 14))).toNat, by omega, by omega⟩
  -- the bins
  obtain ⟨e1, S1, qb, he1, hS1⟩ := for_inv0 (dead := [7]) (tg := .nm 7) (body := blaw_1) (e := [some (.fls (ns.map D.int)), some (tpD rowD rs), some (tabD (many, t)), some (.int room), some (.dct (dz (homeZ t))), some (.ref A.length), some (st3 A), none, none, none]) (S := Wf (⟨homeZ t, many, room⟩ : Fc) A s0 (R0 (A.length + 3) (lts rs) 0)) (ys := rngD 0 (many : Int)) (xs := rngD 0 (many : Int))
    (fun i e S => e = [some (.fls (ns.map D.int)), some (tpD rowD rs), some (tabD (many, t)), some (.int room), some (.dct (dz (homeZ t))), some (.ref A.length), some (st3 A), none, none, none] ∧ S = Wf (⟨homeZ t, many, room⟩ : Fc) A s0 (R0 (A.length + 3) (lts rs) i))
    ⟨rfl, rfl⟩ (fun i e S x hx ⟨he, hS⟩ => by
      subst he hS
      obtain ⟨ex, hlt⟩ := rngD_get hx
      subst ex
      rw [Int.zero_add]
      exact ⟨_, _, law_bin (c := (⟨homeZ t, many, room⟩ : Fc)) ns (tpD rowD rs) (tabD (many, t)) (.int room) (lts rs) i (by omega), rfl, rfl⟩)
  rw [rngD_len] at hS1
  have mm : ((many : Int) - 0).toNat = many := by omega
  rw [mm] at hS1
  subst he1 hS1
  -- the deeds
  obtain ⟨e', S', q, s2, m2, R2, b2, he, hS, hb2, I2, J2, k1, q2, B2⟩ := for_inv0 (dead := [8, 9]) (tg := .nm 8) (body := blaw_2) (e := [some (.fls (ns.map D.int)), some (tpD rowD rs), some (tabD (many, t)), some (.int room), some (.dct (dz (homeZ t))), some (.ref A.length), some (st3 A), none, none, none]) (S := Wf (⟨homeZ t, many, room⟩ : Fc) A s0 (R0 (A.length + 3) (lts rs) many)) (ys := rngD 0 (v : Int)) (xs := rngD 0 (v : Int))
    (fun i e S => ∃ (s : FS) (m : Lm) (R : Sto) (b : Nat), e = [some (.fls (ns.map D.int)), some (tpD rowD rs), some (tabD (many, t)), some (.int room), some (.dct (dz (homeZ t))), some (.ref A.length), some (st3 A), none, none, none] ∧ S = Wf (⟨homeZ t, many, room⟩ : Fc) A s R ∧ b ≤ 64 + i ∧ FrI (⟨homeZ t, many, room⟩ : Fc) b s ∧ FrJ (⟨homeZ t, many, room⟩ : Fc) rs s ∧ tot s.left ≤ 1000 ∧ Mq many s m ∧ Bs (A.length + 3) many m R)
    ⟨s0, m0 (lts rs), _, rs.length, rfl, rfl, by omega, I0, J0, tot1, q0, B0⟩ (fun i e S x hx ⟨s, m, R, b, he, hS, hb, I, J, ht, qq, B⟩ => by
      subst he hS
      obtain ⟨ex, hlt⟩ := rngD_get hx
      subst ex
      have hi : i < v := by omega
      obtain ⟨s', m', R', r1, r2, r3, r4, r5, qt⟩ := law_turn (A := A) (c := (⟨homeZ t, many, room⟩ : Fc)) ns rfl hmem hz hhl m1 m6' C I (show b ≤ 7000 by omega) J (by omega) ht qq B (tpD rowD rs) (tabD (many, t)) i (by omega)
      rw [Int.zero_add]
      exact ⟨_, _, qt, s', m', R', b + 1, rfl, rfl, by omega, r1, r2, r3, r4, r5⟩)
  subst he hS
  rw [rngD_len] at hb2
  have sn2 := lw_seen (A := A) (c := (⟨homeZ t, many, room⟩ : Fc)) rfl hmem hz hhl m6' (show b2 ≤ 9000 by omega) C I2 J2 (by omega) k1 q2 B2
  have mx : ∀ (i j : Int) (S : Sto), ii2D maxI [.int i, .int j] S = .ok (.int (maxI i j)) S := fun _ _ _ => rfl
  have mn : ∀ (i j : Int) (S : Sto), ii2D minI [.int i, .int j] S = .ok (.int (minI i j)) S := fun _ _ _ => rfl
  have ln : ∀ S, lenD [.fls (ns.map D.int)] S = .ok (.int (ns.length : Nat)) S := fun S => by
    show Res.ok (D.int ((ns.map D.int).length : Nat)) S = _
    rw [List.length_map]
  have ix1 : ∀ S, ixD (tabD (many, t)) (.int 1) S = .ok (tpD rowD t) S := fun S => rfl
  have ix0 : ∀ S, ixD (tabD (many, t)) (.int 0) S = .ok (.int (many : Int)) S := fun S => rfl
  have bt : ∀ e : En, bindT (.tp [.nm 1, .nm 2, .nm 3]) (.tup [tpD rowD rs, tabD (many, t), .int room]) e = some (((e.set 1 (some (tpD rowD rs))).set 2 (some (tabD (many, t)))).set 3 (some (.int room))) := fun _ => rfl
  have mk1 : (FFrame___init__ [.ref A.length, tpD rowD rs, tabD (many, t), .int room] (A ++ [.ins "Frame" []])) = .ok .non (Wf (⟨homeZ t, many, room⟩ : Fc) A s0 []) := ini1
  have lt1 := law_letters rs pos (by omega) (by omega) (Wf (⟨homeZ t, many, room⟩ : Fc) A s0 [])
  have w1 : ((Wf (⟨homeZ t, many, room⟩ : Fc) A s0 []).length) = A.length + 3 := by rw [Wf_len]; rfl
  have w2 : Wf (⟨homeZ t, many, room⟩ : Fc) A s0 [] ++ [DO.lst ((lts rs).map D.int)] = Wf (⟨homeZ t, many, room⟩ : Fc) A s0 [.lst ((lts rs).map D.int)] := Wf_app
  rw [w1, w2] at lt1
  have w3 : ((Wf (⟨homeZ t, many, room⟩ : Fc) A s0 [.lst ((lts rs).map D.int)]).length) = A.length + 3 + 1 := by rw [Wf_len]; rfl
  have w4 : (Wf (⟨homeZ t, many, room⟩ : Fc) A s0 [.lst ((lts rs).map D.int)] ++ [DO.dct []]) = Wf (⟨homeZ t, many, room⟩ : Fc) A s0 [.lst ((lts rs).map D.int), .dct []] := Wf_app
  have w5 : ((Wf (⟨homeZ t, many, room⟩ : Fc) A s0 [.lst ((lts rs).map D.int), .dct []]).length) = A.length + 3 + 2 := by rw [Wf_len]; rfl
  have w6 : (Wf (⟨homeZ t, many, room⟩ : Fc) A s0 [.lst ((lts rs).map D.int), .dct []] ++ [DO.dct []]) = Wf (⟨homeZ t, many, room⟩ : Fc) A s0 (R0 (A.length + 3) (lts rs) 0) := Wf_app
  have fb := fun (f : Ev D) (e : En) (S : Sto) (h : f e S = .ok (.int (many : Int)) S) => forR1i (dead := [7]) (tg := .nm 7) (f := f) (a := blaw_1) (e := e) (S := S) (i := (many : Int)) h (by omega) (by omega)
  have fr := fun (f : Ev D) (e : En) (S : Sto) (h : f e S = .ok (.int (v : Int)) S) => forR1i (dead := [8, 9]) (tg := .nm 8) (f := f) (a := blaw_2) (e := e) (S := S) (i := (v : Int)) h (by omega) (by omega)
  have clo : Clo A (Wf (⟨homeZ t, many, room⟩ : Fc) A s2 R2) := by
    rw [← hA]
    exact ⟨Nat.zero_le _, fun k o hk => absurd hk (by simp)⟩
  refine ⟨(Wf (⟨homeZ t, many, room⟩ : Fc) A s2 R2).take A.length, ?_⟩
  have st : D.lst [.ref (A.length + 3), .ref (A.length + 3 + 1), .ref (A.length + 3 + 2)] = st3 A := rfl
  simp only [Flaw, runD, blaw, go0, goS, qm, bt, ap_nDctP, ix1, dct_rows, ap_Make, mk1, w1, lt1, ap_nLst, ap_nDct0, w3, w4, w5, w6, st]
  rw [fb _ _ _ (by simp only [goS, ix0]), qb]
  simp only [goS, sn0, Bool.not_true, Bool.false_eq_true, if_false]
  rw [fr _ _ _ (by simp only [goS, ln, subD_i, mn, mx, hv1]), q]
  simp only [goS, sn2]
  exact fin_frz clo (show (D.bl true).gnd = true from rfl)
end Lw
open PySem PySem.W PyProof.Rows
set_option maxRecDepth 100000 in
set_option maxHeartbeats 0 in
theorem PySem.Challenge.cw_walkframe_k32_frames_letter_by_letter_holds : PySem.Challenge.rw_walkframe_k32_frames_letter_by_letter.Holds := by
  w_on; o_law; k_head; (case hw => w_witness2)
  k_fill
  refine L2.walk_of (l := PySem.Challenge.rw_walkframe_k32_frames_letter_by_letter) (n := 63) (k := 5) (x := "_law_script") (CX := fun w => L2N.CX PySem.Challenge.pw_walkframe_k32_frames_letter_by_letter w) (sp := fun w => Pu.SpE _ 1 Lw.Flaw) rfl (by decide) rfl ⟨rfl, by decide, by decide⟩ (fun w h Y => PySem.W.kIn_of Y) ?F (fun w H a ns hl _ hs => Pu.law_sp Lw.math H a ns hl hs) (fun w H s e s' h => Pu.cx_no h)
  case F =>
    intro w mg fa h KX G hmg
    refine' Lw.all_ok KX G hmg ?og_Frame ?op_Frame ?od_Frame ?oo_Frame ?os_Frame ?om_Frame ?ok_Frame ?on_Frame_bins ?on_Frame_left ?on_Frame_lying ?on_Frame_many ?on_Frame_out ?on_Frame_room ?a0 ?l0 ?c0 ?k0 ?a1 ?l1 ?c1 ?k1 ?a2 ?l2 ?c2 ?k2 ?a3 ?l3 ?c3 ?k3 ?a4 ?l4 ?c4 ?k4 ?a5 ?l5 ?c5 ?k5 ?a6 ?i6 ?l6 ?c6 ?k6 ?a7 ?i7 ?l7 ?c7 ?k7 ?a8 ?i8 ?l8 ?c8 ?k8 ?a9 ?i9 ?l9 ?c9 ?k9 ?a10 ?i10 ?l10 ?c10 ?k10 ?a11 ?i11 ?l11 ?c11 ?k11 ?a12 ?i12 ?l12 ?c12 ?k12 ?a13 ?i13 ?l13 ?c13 ?k13 ?a14 ?i14 ?l14 ?c14 ?k14 ?a15 ?l15 ?c15 ?k15 ?a16 ?l16 ?c16 ?k16 ?a17 ?l17 ?c17 ?k17 ?a18 ?l18 ?c18 ?k18 ?a19 ?l19 ?c19 ?k19 ?a20 ?l20 ?c20 ?k20 ?a21 ?l21 ?c21 ?k21 ?a22 ?l22 ?c22 ?k22 ?a23 ?l23 ?c23 ?k23 ?a24 ?l24 ?c24 ?k24 ?a25 ?l25 ?c25 ?k25 ?a26 ?l26 ?c26 ?k26 ?a27 ?l27 ?c27 ?k27 ?a28 ?l28 ?c28 ?k28 ?a29 ?l29 ?c29 ?k29 ?a30 ?l30 ?c30 ?k30 ?z_dict ?z_int ?z_len ?z_list ?z_max ?z_min ?z_range ?z_set ?z_sorted ?z_sum ?z_tuple ?yg_NoBin ?yg_NotDone ?ye_NoBin ?yk_NoBin ?yb_NoBin ?ye_NotDone ?yk_NotDone ?yb_NotDone ?ys_NotDone_NotDone ?yt_NoBin ?yd_NoBin ?yt_NotDone ?yd_NotDone
    (case og_Frame => k_is)
    (case op_Frame => k_is)
    (case od_Frame => k_is)
    (case oo_Frame => k_is)
    (case os_Frame => k_is)
    (case om_Frame => k_is)
    (case ok_Frame => k_is)
    (case on_Frame_bins => k_is)
    (case on_Frame_left => k_is)
    (case on_Frame_lying => k_is)
    (case on_Frame_many => k_is)
    (case on_Frame_out => k_is)
    (case on_Frame_room => k_is)
    (case a0 => k_is)
    (case l0 => k_is)
    (case c0 => k_is)
    (case k0 => k_is)
    (case a1 => k_is)
    (case l1 => k_is)
    (case c1 => k_is)
    (case k1 => k_is)
    (case a2 => k_is)
    (case l2 => k_is)
    (case c2 => k_is)
    (case k2 => k_is)
    (case a3 => k_is)
    (case l3 => k_is)
    (case c3 => k_is)
    (case k3 => k_is)
    (case a4 => k_is)
    (case l4 => k_is)
    (case c4 => k_is)
    (case k4 => k_is)
    (case a5 => k_is)
    (case l5 => k_is)
    (case c5 => k_is)
    (case k5 => k_is)
    (case a6 => k_is)
    (case i6 => k_is)
    (case l6 => k_is)
    (case c6 => k_is)
    (case k6 => k_is)
    (case a7 => k_is)
    (case i7 => k_is)
    (case l7 => k_is)
    (case c7 => k_is)
    (case k7 => k_is)
    (case a8 => k_is)
    (case i8 => k_is)
    (case l8 => k_is)
    (case c8 => k_is)
    (case k8 => k_is)
    (case a9 => k_is)
    (case i9 => k_is)
    (case l9 => k_is)
    (case c9 => k_is)
    (case k9 => k_is)
    (case a10 => k_is)
    (case i10 => k_is)
    (case l10 => k_is)
    (case c10 => k_is)
    (case k10 => k_is)
    (case a11 => k_is)
    (case i11 => k_is)
    (case l11 => k_is)
    (case c11 => k_is)
    (case k11 => k_is)
    (case a12 => k_is)
    (case i12 => k_is)
    (case l12 => k_is)
    (case c12 => k_is)
    (case k12 => k_is)
    (case a13 => k_is)
    (case i13 => k_is)
    (case l13 => k_is)
    (case c13 => k_is)
    (case k13 => k_is)
    (case a14 => k_is)
    (case i14 => k_is)
    (case l14 => k_is)
    (case c14 => k_is)
    (case k14 => k_is)
    (case a15 => k_is)
    (case l15 => k_is)
    (case c15 => k_is)
    (case k15 => k_is)
    (case a16 => k_is)
    (case l16 => k_is)
    (case c16 => k_is)
    (case k16 => k_is)
    (case a17 => k_is)
    (case l17 => k_is)
    (case c17 => k_is)
    (case k17 => k_is)
    (case a18 => k_is)
    (case l18 => k_is)
    (case c18 => k_is)
    (case k18 => k_is)
    (case a19 => k_is)
    (case l19 => k_is)
    (case c19 => k_is)
    (case k19 => k_is)
    (case a20 => k_is)
    (case l20 => k_is)
    (case c20 => k_is)
    (case k20 => k_is)
    (case a21 => k_is)
    (case l21 => k_is)
    (case c21 => k_is)
    (case k21 => k_is)
    (case a22 => k_is)
    (case l22 => k_is)
    (case c22 => k_is)
    (case k22 => k_is)
    (case a23 => k_is)
    (case l23 => k_is)
    (case c23 => k_is)
    (case k23 => k_is)
    (case a24 => k_is)
    (case l24 => k_is)
    (case c24 => k_is)
    (case k24 => k_is)
    (case a25 => k_is)
    (case l25 => k_is)
    (case c25 => k_is)
    (case k25 => k_is)
    (case a26 => k_is)
    (case l26 => k_is)
    (case c26 => k_is)
    (case k26 => k_is)
    (case a27 => k_is)
    (case l27 => k_is)
    (case c27 => k_is)
    (case k27 => k_is)
    (case a28 => k_is)
    (case l28 => k_is)
    (case c28 => k_is)
    (case k28 => k_is)
    (case a29 => k_is)
    (case l29 => k_is)
    (case c29 => k_is)
    (case k29 => k_is)
    (case a30 => k_is)
    (case l30 => k_is)
    (case c30 => k_is)
    (case k30 => k_is)
    (case z_dict => k_is)
    (case z_int => k_is)
    (case z_len => k_is)
    (case z_list => k_is)
    (case z_max => k_is)
    (case z_min => k_is)
    (case z_range => k_is)
    (case z_set => k_is)
    (case z_sorted => k_is)
    (case z_sum => k_is)
    (case z_tuple => k_is)
    (case yg_NoBin => k_is)
    (case yg_NotDone => k_is)
    (case ye_NoBin => k_exc)
    (case yk_NoBin => k_is)
    (case yb_NoBin => k_is)
    (case ye_NotDone => k_exc)
    (case yk_NotDone => k_is)
    (case yb_NotDone => k_is)
    (case ys_NotDone_NotDone => k_is)
    (case yt_NoBin => k_is)
    (case yd_NoBin => k_is)
    (case yt_NotDone => k_is)
    (case yd_NotDone => k_is)
