import PyProof.Rows.All
import Wide.All
import OpenK.AllK
import Wide.FinOn
import HandS.ForMost
import HandS.ForExc
import HandS.Wide
import HandS.IsInst
import HandS.TupAny
import HandS.TupMul
import HandS.Deep
import HandS.WideBits
import HandS.Flow
import HandS.ExcCtx
import HandS.HotCalls
import HandS.ExcIs
import HandS.SortInts
import HandS.SortRule
import HandS.SetFor
import HandS.Strs
import HandS.More
import HandS.ExcValue
import HandS.TupLe
import HandS.Style
import HandS.Iter
import HandS.Zip
import HandS.Conv
import KE.GoesEnum
import PyProof.WalksMore
import PyProof.MinMaxWalk
import PyProof.SumWalkG
import PyProof.StrOps2
import KE.DataMinMax
import KE.KDictPairs
import HandS.SetKeys
import HandS.Text
import HandS.Flt
import KE.KDictList
import KE.DataFind
import KE.DatumOrd
import HandS.SortKw
import KE.GoesRaise
import HandS.TryOnly
import KE.KTab
import HandS.ListEq
import KE.GoesNew
import KE.SortData
import PyProof.DictMoreH
import PyProof.TupleKey
import PySem.Challenge.RW_walkframe_k30_passes_and_cascades
import PyProof.P3Eq
set_option Elab.async false
set_option linter.all false
set_option bootstrap.genMatcherCode false
set_option genSizeOf false
set_option maxRecDepth 100000
set_option maxHeartbeats 4000000
namespace Pu
open PySem PySem.Spec PyProof.Rows L2
/-- a new tuple is laid, and stays as it is -/
noncomputable def NT (vs : List V) (H : Hp) (Q : VK) : Prop := ∀ (p : Addr) (ob : Obj), H p = none → ob.dict = none → Q (.ref p) (upd H p (.frz ob (.tup vs)))
section
variable {X : Cx}
theorem NT.lay {pins : List (Addr × Obj)} {σ : L2.St} {H : Hp} {s : Shared} {vs : List V} {us : List Value} {Q : VK} {tk : Tok} (J : Inv X pins σ H s) (r : Vals vs us) (z : vs.length ≤ sizeLine) (q : NT vs H Q) :
    EP X pins σ Q (.ref s.heap.objs.size) { s with heap := s.heap.push { cls := .type "tuple", data := .seq us.toArray }, toks := tk } :=
  ⟨.ref s.heap.objs.size, _, J.laid (t' := tk) (o := .frz { cls := .type "tuple", data := .seq us.toArray } (.tup vs)) (fun _ _ e => Heap.get?_push_of_some _ e) (Nat.le_refl _) ⟨Heap.get?_push_size _ rfl, z, us, r, IsTup.new _ _⟩, rfl, q _ _ (J.hok.fresh (Nat.le_refl _)) rfl⟩
noncomputable def tTupF (t : TA) : TE := fun σ H Q => t σ H fun vs H1 => vs.length ≤ sizeLine ∧ NT vs H1 Q
theorem pe_tupF {es : List Expr} {t : TA} {k : Nat} {pos : Pos} (h : PA X es t) : PE X (.Tuple es k pos) (tTupF t) := ⟨fun pins s σ H Q J h0 =>
  wpAny_Tuple_spliced (thn (h.run pos pins s σ H _ J h0) fun us s1 ⟨vs, H1, J1, r, z, q⟩ => ⟨by rw [← r.length]; exact z, NT.lay (tk := s1.toks) J1 r z q⟩)⟩
theorem cr_tupleF : CallR X (.type "tuple") (fun xs H Q => ∃ p ys, xs = [.ref p] ∧ ((SqL X.K H p ys ∧ NT ys H Q) ∨ (SqT X.K H p ys ∧ Q (.ref p) H))) := by
  intro pins s σ H xs ws Q J r0 h
  obtain ⟨p, ys, rfl, h⟩ := h
  obtain ⟨wv, rfl, rw0⟩ := vals1 r0
  cases rw0
  rcases h with ⟨hl, q⟩ | ⟨ht, q⟩
  · obtain ⟨its, ri, pl, z⟩ := J.list hl
    have hlen := ri.length
    refine call_tuple_list pl.isList (fun h1 kp => ?_) (by simp only [List.size_toArray]; omega)
    have J1 : Inv X pins σ H { s with heap := h1 } := J.kept (t' := s.toks) kp
    exact NT.lay (tk := s.toks) J1 ri z q
  · obtain ⟨its, ri, pl, _⟩ := J.tuple ht
    exact call_tuple_same pl ⟨.ref p, H, J, rfl, q⟩
/-- t + u -/
noncomputable def rCatF (K : PySem.W.Frag) : R2 := fun x y H Q => ∃ a b xs ys, x = .ref a ∧ y = .ref b ∧ SqT K H a xs ∧ SqT K H b ys ∧ xs.length + ys.length ≤ sizeLine ∧ (xs = [] → Q (.ref b) H) ∧ (xs ≠ [] → ys = [] → Q (.ref a) H) ∧ (xs ≠ [] → ys ≠ [] → NT (xs ++ ys) H Q)
theorem op_catF : OpR X (binaryOp .Add) (rCatF X.K) := by
  intro pins s σ H x y v u Q J rx ry h
  obtain ⟨a, b, xs, ys, rfl, rfl, ha, hb, z, q0, q1, q2⟩ := h
  cases rx
  cases ry
  obtain ⟨its, ri, pa', _⟩ := J.tuple ha
  obtain ⟨jts, rj, pb', _⟩ := J.tuple hb
  have nx := ri.nil_iff
  have ny := rj.nil_iff
  by_cases hx : xs = []
  · subst hx
    have e := nx.mpr rfl
    subst e
    exact cat_tup0 pa' pb' ⟨.ref b, H, J, rfl, q0 rfl⟩
  · refine HT.cat_tup pa' pb' (fun e => hx (nx.mp e)) (fun e => ⟨.ref a, H, J, rfl, q1 hx (ny.mp e)⟩) (fun e => ?_) (by rw [← ri.length, ← rj.length]; exact z)
    exact NT.lay (tk := s.toks) J (ri.append rj) (by rw [List.length_append]; exact z) (q2 hx fun w => e (ny.mpr w))
/-- t[lo:hi] -/
noncomputable def rSlF (K : PySem.W.Frag) : V → Option Int → Option Int → Hp → VK → Prop := fun x lo hi H Q => ∃ a xs, x = .ref a ∧ SqT K H a xs ∧
  (HT.sIx xs.length 0 lo = 0 ∧ HT.sIx xs.length xs.length hi = xs.length → Q (.ref a) H) ∧ (¬ (HT.sIx xs.length 0 lo = 0 ∧ HT.sIx xs.length xs.length hi = xs.length) → NT (cutV xs lo hi) H Q)
theorem sl_tupF : SlR X (rSlF X.K) := by
  intro pins s σ H x v vl vu lo hi sl Q J rx hs pl pu h
  obtain ⟨a, xs, rfl, hx, q1, q2⟩ := h
  cases rx
  obtain ⟨its, ri, ht, z⟩ := J.tuple hx
  have hn : its.toArray.size = xs.length := by rw [List.size_toArray, ri.length]
  refine ⟨"tuple", _, PyProof.Rows.slot_tuple_getitem.lookup, ht.typeIs, ?_⟩
  by_cases hw : HT.sIx xs.length 0 lo = 0 ∧ HT.sIx xs.length xs.length hi = xs.length
  · exact getItem_tuple_whole ht hs pl pu (by rw [hn]; exact hw) ⟨.ref a, H, J, rfl, q1 hw⟩
  · refine HT.getItem_tuple_cut ht hs pl pu (by rw [hn]; exact hw) ?_ (by rw [hn]; exact z)
    rw [hn]
    exact NT.lay (tk := s.toks) J ((ri.drop (HT.sIx xs.length 0 lo)).take (HT.sIx xs.length xs.length hi - HT.sIx xs.length 0 lo)) (Nat.le_trans (cutV_length xs lo hi) z) (q2 hw)
end
end Pu
set_option Elab.async false
set_option linter.all false
set_option maxRecDepth 100000
namespace Pu
open PySem PySem.Spec PyProof.Rows L2
/-- a value: data by value; what is changed in place by its number in the store -/
inductive D where
  | non | bl (b : Bool) | int (i : Int) | str (x : Str) | tup (xs : List D) | tpi (xs : List D) | lst (xs : List D) | fls (xs : List D) | dct (kvs : List (Key × D)) | ref (n : Nat)
/-- an object of the store -/
inductive DO where
  | lst (xs : List D) | dct (kvs : List (Key × D)) | ins (c : Str) (fs : List (Str × D)) | fdc (od : Obj) (vs : List (Key × V)) (kvs : List (Key × D)) | tdc (kvs : List (List Int × D))
noncomputable abbrev En := List (Option D)
noncomputable abbrev Sto := List DO
inductive Res (α : Type) where
  | ok (a : α) (S : Sto) | exc (c : Str) (S : Sto) | bad
inductive SRes where
  | next (e : En) (S : Sto) | ret (d : D) (S : Sto) | brk (e : En) (S : Sto) | cnt (e : En) (S : Sto) | exc (c : Str) (e : En) (S : Sto) | bad
noncomputable abbrev Ev (α : Type) := En → Sto → Res α
noncomputable abbrev Stm := En → Sto → SRes
noncomputable def Res.bind {α β : Type} (r : Res α) (k : α → Sto → Res β) : Res β := match r with
  | .ok a S => k a S
  | .exc c S => .exc c S
  | .bad => .bad
@[simp] theorem Res.bind_ok {α β : Type} {a : α} {S : Sto} {k : α → Sto → Res β} : (Res.ok a S).bind k = k a S := id rfl
@[simp] theorem Res.bind_exc {α β : Type} {c : Str} {S : Sto} {k : α → Sto → Res β} : (Res.exc c S).bind k = .exc c S := id rfl
@[simp] theorem Res.bind_bad {α β : Type} {k : α → Sto → Res β} : (Res.bad).bind k = .bad := id rfl
/-- a value, or nothing is promised -/
noncomputable def opt {α : Type} (o : Option α) (S : Sto) : Res α := match o with
  | some a => .ok a S
  | none => .bad
@[simp] theorem opt_some {α : Type} {a : α} {S : Sto} : opt (some a) S = .ok a S := id rfl
@[simp] theorem opt_none {α : Type} {S : Sto} : opt (none : Option α) S = .bad := id rfl
/-- the addresses of the store's objects, by number; all addresses that no value may have by its data (those and the reserved ones) -/
structure AM where
  ad : List Addr
  no : List Addr
  sub : ∀ a, a ∈ ad → a ∈ no
noncomputable def TupAt (K : PySem.W.Frag) (am : AM) (H : Hp) (a : Addr) (vs : List V) : Prop :=
  (∃ o : Obj, H a = some (.frz o (.tup vs)) ∧ o.dict = none ∧ a ∉ am.no) ∨ ∃ (o : Obj) (its : Array Value) (n : Nat), K.lookup a = some o ∧ o.cls = .type "tuple" ∧ o.dict = none ∧ o.data = .seq its n ∧ its.size ≤ sizeLine ∧ Vals vs its.toList
theorem TupAt.seq {K : PySem.W.Frag} {am : AM} {H : Hp} {a : Addr} {vs : List V} (h : TupAt K am H a vs) : SqT K H a vs := by
  rcases h with ⟨o, h, _⟩ | ⟨o, its, n, h1, h2, _, h3⟩
  · exact .inl (.inr ⟨o, h⟩)
  · exact .inr ⟨o, its, n, h1, h2, h3⟩
/-- the item of an iterator: read at once -/
noncomputable def TpiAt (am : AM) (H : Hp) (a : Addr) (vs : List V) : Prop := Rd H a (.tup vs) ∧ a ∉ am.no
noncomputable def LstAt (K : PySem.W.Frag) (am : AM) (H : Hp) (a : Addr) (vs : List V) : Prop :=
  (Rd H a (.lst vs) ∧ a ∉ am.no) ∨ ∃ (o : Obj) (its : Array Value) (n : Nat), K.lookup a = some o ∧ o.cls = .type "list" ∧ o.dict = none ∧ o.data = .seq its n ∧ its.size ≤ sizeLine ∧ Vals vs its.toList
theorem LstAt.seq {K : PySem.W.Frag} {am : AM} {H : Hp} {a : Addr} {vs : List V} (h : LstAt K am H a vs) : SqL K H a vs := by
  rcases h with ⟨h, _⟩ | h
  · exact .inl h
  · exact .inr h
mutual
inductive VR (K : PySem.W.Frag) (am : AM) (H : Hp) : D → V → Prop
  | non : VR K am H .non .non
  | bl (b : Bool) : VR K am H (.bl b) (.bl b)
  | int (i : Int) : VR K am H (.int i) (.int i)
  | str (x : Str) : VR K am H (.str x) (.str x)
  | tup {a : Addr} {vs : List V} {ds : List D} : TupAt K am H a vs → VRs K am H ds vs → VR K am H (.tup ds) (.ref a)
  | tpi {a : Addr} {vs : List V} {ds : List D} : TpiAt am H a vs → VRs K am H ds vs → VR K am H (.tpi ds) (.ref a)
  | lst {a : Addr} {vs : List V} {ds : List D} : H a = some (.lst vs) → a ∉ am.no → VRs K am H ds vs → VR K am H (.lst ds) (.ref a)
  | fls {a : Addr} {vs : List V} {ds : List D} : LstAt K am H a vs → VRs K am H ds vs → VR K am H (.fls ds) (.ref a)
  | dct {a : Addr} {vs : List (Key × V)} {ds : List (Key × D)} : H a = some (.dK vs) → a ∉ am.no → VRk K am H ds vs → VR K am H (.dct ds) (.ref a)
  | ref {n : Nat} {a : Addr} : am.ad[n]? = some a → VR K am H (.ref n) (.ref a)
inductive VRs (K : PySem.W.Frag) (am : AM) (H : Hp) : List D → List V → Prop
  | nil : VRs K am H [] []
  | cons {d : D} {v : V} {ds : List D} {vs : List V} : VR K am H d v → VRs K am H ds vs → VRs K am H (d :: ds) (v :: vs)
inductive VRk (K : PySem.W.Frag) (am : AM) (H : Hp) : List (Key × D) → List (Key × V) → Prop
  | nil : VRk K am H [] []
  | cons {k : Key} {d : D} {v : V} {ds : List (Key × D)} {vs : List (Key × V)} : VR K am H d v → VRk K am H ds vs → VRk K am H ((k, d) :: ds) ((k, v) :: vs)
end
/-- what keeps values as they are -/
structure Ext (am am' : AM) (H H' : Hp) : Prop where
  ad : ∀ (n : Nat) (a : Addr), am.ad[n]? = some a → am'.ad[n]? = some a
  keep : ∀ (b : Addr) (o : HO), H b = some o → b ∉ am.no → H' b = some o ∧ b ∉ am'.no
/-- what a step does to the heap: nothing to what is not in the store; new ones of the store are new -/
structure Grow (am am' : AM) (H H' : Hp) : Prop where
  pre : ∃ r, am'.ad = am.ad ++ r
  fresh : ∀ b, b ∈ am'.ad → b ∉ am.ad → H b = none
  freshNo : ∀ b, b ∈ am'.no → b ∉ am.no → H b = none
  noK : ∀ b, b ∈ am.no → b ∈ am'.no
  keep : ∀ b o, H b = some o → b ∉ am.ad → H' b = some o
theorem Grow.get {am am' : AM} {H H' : Hp} (g : Grow am am' H H') {n : Nat} {a : Addr} (h : am.ad[n]? = some a) : am'.ad[n]? = some a := by
  obtain ⟨r, e⟩ := g.pre
  rw [e]
  have hl := (List.getElem?_eq_some_iff.mp h).1
  rw [List.getElem?_append_left hl]
  exact h
theorem Grow.ext {am am' : AM} {H H' : Hp} (g : Grow am am' H H') : Ext am am' H H' := ⟨fun n a h => g.get h, fun b o h n => ⟨g.keep b o h fun z => n (am.sub b z), fun z => by
  have q := g.freshNo b z n
  rw [h] at q; cases q⟩⟩
theorem Grow.refl {am : AM} {H : Hp} : Grow am am H H := ⟨⟨[], by simp⟩, fun _ h h' => absurd h h', fun _ h h' => absurd h h', fun _ h => h, fun _ _ h _ => h⟩
theorem Grow.trans {a b c : AM} {H H1 H2 : Hp} (g : Grow a b H H1) (g' : Grow b c H1 H2) : Grow a c H H2 := by
  obtain ⟨r, e⟩ := g.pre
  obtain ⟨r', e'⟩ := g'.pre
  have ina : ∀ x o, H x = some o → x ∉ a.ad → x ∉ b.ad := fun x o h n hb => by
    have z := g.fresh x hb n
    rw [h] at z; cases z
  refine ⟨⟨r ++ r', by rw [e', e, List.append_assoc]⟩, fun x hx n => ?_, fun x hx n => ?_, fun x hx => g'.noK x (g.noK x hx), fun x o h n => g'.keep x o (g.keep x o h n) (ina x o h n)⟩
  · cases q : H x with
    | none => rfl
    | some o =>
      have h1 := g.keep x o q n
      have h2 := g'.fresh x hx (ina x o q n)
      rw [h1] at h2; cases h2
  · cases q : H x with
    | none => rfl
    | some o =>
      have n1 : x ∉ a.ad := fun z => n (a.sub x z)
      have h1 := g.keep x o q n1
      have nb : x ∉ b.no := fun z => by
        have q2 := g.freshNo x z n
        rw [q] at q2; cases q2
      have h2 := g'.freshNo x hx nb
      rw [h1] at h2; cases h2
theorem Ext.rd {am am' : AM} {H H' : Hp} (g : Ext am am' H H') {b : Addr} {u : HO} (h : Rd H b u) (n : b ∉ am.no) : Rd H' b u ∧ b ∉ am'.no := by
  rcases h with h | ⟨o, h⟩
  · exact ⟨.inl (g.keep _ _ h n).1, (g.keep _ _ h n).2⟩
  · exact ⟨.inr ⟨o, (g.keep _ _ h n).1⟩, (g.keep _ _ h n).2⟩
theorem TupAt.ext {K : PySem.W.Frag} {am am' : AM} {H H' : Hp} (g : Ext am am' H H') {a : Addr} {vs : List V} (h : TupAt K am H a vs) : TupAt K am' H' a vs := by
  rcases h with ⟨o, h, d, n⟩ | h
  · exact .inl ⟨o, (g.keep _ _ h n).1, d, (g.keep _ _ h n).2⟩
  · exact .inr h
theorem TpiAt.ext {am am' : AM} {H H' : Hp} (g : Ext am am' H H') {a : Addr} {vs : List V} (h : TpiAt am H a vs) : TpiAt am' H' a vs := g.rd h.1 h.2
theorem LstAt.ext {K : PySem.W.Frag} {am am' : AM} {H H' : Hp} (g : Ext am am' H H') {a : Addr} {vs : List V} (h : LstAt K am H a vs) : LstAt K am' H' a vs := by
  rcases h with ⟨h, n⟩ | h
  · exact .inl (g.rd h n)
  · exact .inr h
section
variable {K : PySem.W.Frag} {am am' : AM} {H H' : Hp}
mutual
theorem VR.ext (g : Ext am am' H H') : ∀ {d : D} {v : V}, VR K am H d v → VR K am' H' d v
  | _, _, .non => .non
  | _, _, .bl b => .bl b
  | _, _, .int i => .int i
  | _, _, .str x => .str x
  | _, _, .tup h hs => .tup (h.ext g) (VRs.ext g hs)
  | _, _, .tpi h hs => .tpi (h.ext g) (VRs.ext g hs)
  | _, _, .lst h n hs => .lst (g.keep _ _ h n).1 (g.keep _ _ h n).2 (VRs.ext g hs)
  | _, _, .fls h hs => .fls (h.ext g) (VRs.ext g hs)
  | _, _, .dct h n hs => .dct (g.keep _ _ h n).1 (g.keep _ _ h n).2 (VRk.ext g hs)
  | _, _, .ref h => .ref (g.ad _ _ h)
theorem VRs.ext (g : Ext am am' H H') : ∀ {ds : List D} {vs : List V}, VRs K am H ds vs → VRs K am' H' ds vs
  | _, _, .nil => .nil
  | _, _, .cons h t => .cons (VR.ext g h) (VRs.ext g t)
theorem VRk.ext (g : Ext am am' H H') : ∀ {ds : List (Key × D)} {vs : List (Key × V)}, VRk K am H ds vs → VRk K am' H' ds vs
  | _, _, .nil => .nil
  | _, _, .cons h t => .cons (VR.ext g h) (VRk.ext g t)
end
theorem VR.mono (g : Grow am am' H H') {d : D} {v : V} (h : VR K am H d v) : VR K am' H' d v := h.ext g.ext
theorem VRs.mono (g : Grow am am' H H') {ds : List D} {vs : List V} (h : VRs K am H ds vs) : VRs K am' H' ds vs := h.ext g.ext
theorem VRk.mono (g : Grow am am' H H') {ds : List (Key × D)} {vs : List (Key × V)} (h : VRk K am H ds vs) : VRk K am' H' ds vs := h.ext g.ext
end
noncomputable abbrev VRf (K : PySem.W.Frag) (am : AM) (H : Hp) : List (Str × D) → List (Str × V) → Prop := Paired fun p q => p.1 = q.1 ∧ VR K am H p.2 q.2
/-- a dict by its entries: keys that are tuples of ints, where they lie, where what is kept lies -/
noncomputable def entX (x : List Int × Addr × Addr) : DictEntry := ⟨reduceHash (Builtin.Tuple.tupleHashOf (x.1.map hashInt)), .ref x.2.1, .ref x.2.2⟩
noncomputable def dkX (a : Addr) (xs : List (List Int × Addr × Addr)) : Heap → Prop := fun h => ((a == sysModules) = false ∧ xs.length ≤ sizeLine) ∧ ∃ o es ep, h.get? a = some o ∧ o.ExactDict ∧ o.data = .dict es ep ∧ es.toList = xs.map entX ∧ (xs.map (·.1)).Nodup
noncomputable abbrev VRt (K : PySem.W.Frag) (am : AM) (H : Hp) : List (List Int × D) → List (List Int × Addr × Addr) → Prop := Paired fun p q => p.1 = q.1 ∧ VR K am H (.tup (p.1.map D.int)) (.ref q.2.1) ∧ VR K am H p.2 (.ref q.2.2)
noncomputable def OR (K : PySem.W.Frag) (cl : Str → Addr) (am : AM) (H : Hp) (a : Addr) : DO → Prop
  | .lst ds => ∃ vs, H a = some (.lst vs) ∧ VRs K am H ds vs
  | .dct ds => ∃ vs, H a = some (.dK vs) ∧ VRk K am H ds vs
  | .ins c fs => ∃ dx vs, H a = some (.ins (cl c) dx vs) ∧ VRf K am H fs vs
  | .fdc od vs ds => H a = some (.frz od (.dK vs)) ∧ VRk K am H ds vs
  | .tdc ds => ∃ xs, H a = some (.ext (dkX a xs)) ∧ VRt K am H ds xs
structure RelS (K : PySem.W.Frag) (cl : Str → Addr) (am : AM) (S : Sto) (H : Hp) : Prop where
  len : am.ad.length = S.length
  nd : am.ad.Nodup
  ob : ∀ (k : Nat) (o : DO) (a : Addr), S[k]? = some o → am.ad[k]? = some a → OR K cl am H a o
  there : ∀ a, a ∈ am.no → ∃ o, H a = some o
/-- slots -/
structure RelE (K : PySem.W.Frag) (am : AM) (H : Hp) (e : En) (σ : L2.St) : Prop where
  len : e.length = σ.length
  get : ∀ (i : Nat) (d : D), e[i]? = some (some d) → ∃ v, σ[i]? = some (some v) ∧ VR K am H d v
/-- slots forgotten -/
noncomputable def wipeE (e : En) : List Nat → En
  | [] => e
  | v :: vs => (wipeE e vs).set v none
section
variable {K : PySem.W.Frag} {cl : Str → Addr} {am am' : AM} {H H' : Hp} {S S' : Sto}
theorem RelE.ext (g : Ext am am' H H') {e : En} {σ : L2.St} (r : RelE K am H e σ) : RelE K am' H' e σ := ⟨r.len, fun i d h => by
  obtain ⟨v, h1, h2⟩ := r.get i d h
  exact ⟨v, h1, h2.ext g⟩⟩
theorem RelE.mono (g : Grow am am' H H') {e : En} {σ : L2.St} (r : RelE K am H e σ) : RelE K am' H' e σ := r.ext g.ext
theorem RelE.set {e : En} {σ : L2.St} (r : RelE K am H e σ) (i : Nat) {d : D} {v : V} (h : VR K am H d v) : RelE K am H (e.set i (some d)) (σ.set i (some v)) := ⟨by rw [List.length_set, List.length_set]; exact r.len, fun j x hx => by
  by_cases hj : i = j
  · subst hj
    rw [List.getElem?_set_self'] at hx ⊢
    cases q : e[i]? with
    | none => rw [q] at hx; cases hx
    | some z =>
      rw [q] at hx
      have e1 : d = x := Option.some.inj (Option.some.inj hx)
      subst e1
      have hi := (List.getElem?_eq_some_iff.mp q).1
      rw [r.len] at hi
      rw [List.getElem?_eq_getElem hi]
      exact ⟨v, rfl, h⟩
  · rw [List.getElem?_set_ne hj] at hx ⊢
    exact r.get j x hx⟩
theorem RelE.wipe1 {e : En} {σ : L2.St} (r : RelE K am H e σ) (i : Nat) : RelE K am H (e.set i none) σ := ⟨by rw [List.length_set]; exact r.len, fun j x hx => by
  by_cases hj : i = j
  · subst hj
    rw [List.getElem?_set_self'] at hx
    cases q : e[i]? with
    | none => rw [q] at hx; cases hx
    | some z =>
      rw [q] at hx
      cases Option.some.inj hx
  · rw [List.getElem?_set_ne hj] at hx
    exact r.get j x hx⟩
theorem RelE.forget {e : En} {σ : L2.St} (r : RelE K am H e σ) : ∀ vs, RelE K am H (wipeE e vs) σ
  | [] => r
  | v :: vs => (RelE.forget r vs).wipe1 v
theorem RelE.wipe {e : En} {σ : L2.St} (r : RelE K am H e σ) : ∀ vs, RelE K am H (wipeE e vs) (L2.wipe σ vs)
  | [] => r
  | v :: vs => by
    have q := RelE.wipe r vs
    refine ⟨?_, fun j x hx => ?_⟩
    · show ((wipeE e vs).set v none).length = ((L2.wipe σ vs).set v none).length
      rw [List.length_set, List.length_set]
      exact q.len
    · have hx' : ((wipeE e vs).set v none)[j]? = some (some x) := hx
      show ∃ y, ((L2.wipe σ vs).set v none)[j]? = some (some y) ∧ _
      by_cases hj : v = j
      · subst hj
        rw [List.getElem?_set_self'] at hx'
        cases q : (wipeE e vs)[v]? with
        | none => rw [q] at hx'; cases hx'
        | some z =>
          rw [q] at hx'
          cases Option.some.inj hx'
      · rw [List.getElem?_set_ne hj] at hx' ⊢
        exact q.get j x hx'
theorem RelS.has {k : Nat} {o : DO} (r : RelS K cl am S H) (h : S[k]? = some o) : ∃ a, am.ad[k]? = some a ∧ OR K cl am H a o := by
  have hk := (List.getElem?_eq_some_iff.mp h).1
  have hk' : k < am.ad.length := by rw [r.len]; exact hk
  exact ⟨am.ad[k], List.getElem?_eq_getElem hk', r.ob k o _ h (List.getElem?_eq_getElem hk')⟩
theorem OR.ext (g : Ext am am' H H') {a : Addr} {o : DO} (h : OR K cl am H a o) (k : ∀ u, H a = some u → H' a = some u) : OR K cl am' H' a o := by
  cases o with
  | lst ds => obtain ⟨vs, h1, h2⟩ := h; exact ⟨vs, k _ h1, h2.ext g⟩
  | dct ds => obtain ⟨vs, h1, h2⟩ := h; exact ⟨vs, k _ h1, h2.ext g⟩
  | ins c fs => obtain ⟨dx, vs, h1, h2⟩ := h; exact ⟨dx, vs, k _ h1, Paired.mapP h2 fun p q z => ⟨z.1, z.2.ext g⟩⟩
  | fdc od vs ds => exact ⟨k _ h.1, h.2.ext g⟩
  | tdc ds => obtain ⟨xs, h1, h2⟩ := h; exact ⟨xs, k _ h1, Paired.mapP h2 fun p q z => ⟨z.1, z.2.1.ext g, z.2.2.ext g⟩⟩
theorem OR.mono (g : Grow am am' H H') {a : Addr} {o : DO} (h : OR K cl am H a o) (k : ∀ u, H a = some u → H' a = some u) : OR K cl am' H' a o := h.ext g.ext k
theorem RelS.new (r : RelS K cl am S H) {p : Addr} (h : H p = none) : p ∉ am.no := fun hp => by
  obtain ⟨o, e⟩ := r.there p hp
  rw [h] at e; cases e
/-- a new object that is not of the store -/
theorem Grow.upd {o : HO} {p : Addr} (h : H p = none) : Grow am am H (upd H p o) := ⟨⟨[], by simp⟩, fun _ h h' => absurd h h', fun _ h h' => absurd h h', fun _ h => h, fun b u hb _ => by
  rw [upd_ne (ne_of_none hb h)]
  exact hb⟩
theorem RelS.upd (r : RelS K cl am S H) {o : HO} {p : Addr} (h : H p = none) : RelS K cl am S (upd H p o) :=
  ⟨r.len, r.nd, fun k u a h1 h2 => (r.ob k u a h1 h2).mono (Grow.upd h) fun w hw => by rw [upd_ne (ne_of_none hw h)]; exact hw, fun a ha => by
    obtain ⟨u, e⟩ := r.there a ha
    exact ⟨u, by rw [upd_ne (ne_of_none e h)]; exact e⟩⟩
/-- an object of the store is changed -/
theorem Grow.put {a : Addr} {o : HO} (h : a ∈ am.ad) : Grow am am H (L2.upd H a o) := ⟨⟨[], by simp⟩, fun _ h h' => absurd h h', fun _ h h' => absurd h h', fun _ h => h, fun b u hb nb => by
  rw [upd_ne (show b ≠ a from fun e => nb (by rw [e]; exact h))]
  exact hb⟩
theorem RelS.put {k : Nat} {a : Addr} {o : DO} {u : HO} (r : RelS K cl am S H) (hk : am.ad[k]? = some a) (h : OR K cl am (L2.upd H a u) a o) : RelS K cl am (S.set k o) (L2.upd H a u) := by
  have hm : a ∈ am.ad := List.mem_of_getElem? hk
  refine ⟨by rw [List.length_set]; exact r.len, r.nd, fun j w b h1 h2 => ?_, fun b hb => ?_⟩
  · by_cases hj : k = j
    · subst hj
      rw [hk] at h2
      cases h2
      have hl : k < S.length := by rw [← r.len]; exact (List.getElem?_eq_some_iff.mp hk).1
      rw [List.getElem?_set_self hl] at h1
      cases h1
      exact h
    · rw [List.getElem?_set_ne hj] at h1
      refine (r.ob j w b h1 h2).mono (Grow.put hm) fun z hz => ?_
      rw [upd_ne]
      · exact hz
      · intro e
        subst e
        exact hj (nd_ix r.nd hk h2)
  · by_cases e : b = a
    · exact ⟨u, by rw [e]; exact upd_same⟩
    · obtain ⟨w, q⟩ := r.there b hb
      exact ⟨w, by rw [upd_ne e]; exact q⟩
/-- an address is kept for a new object -/
noncomputable def AM.resv (am : AM) (a : Addr) : AM := ⟨am.ad, a :: am.no, fun b hb => List.mem_cons_of_mem _ (am.sub b hb)⟩
/-- .. it comes into the store -/
noncomputable def AM.push (am : AM) (a : Addr) (h : a ∈ am.no) : AM := ⟨am.ad ++ [a], am.no, fun b hb => by
  rcases List.mem_append.mp hb with hb | hb
  · exact am.sub b hb
  · have e : b = a := by simpa using hb
    rw [e]
    exact h⟩
/-- .. it does not -/
noncomputable def AM.free (am : AM) (a : Addr) (h : a ∉ am.ad) : AM := ⟨am.ad, am.no.filter fun b => decide (b ≠ a), fun b hb => List.mem_filter.mpr ⟨am.sub b hb, decide_eq_true fun e => h (by rw [← e]; exact hb)⟩⟩
theorem AM.free_not {a : Addr} (h : a ∉ am.ad) : a ∉ (am.free a h).no := fun z => (of_decide_eq_true (List.mem_filter.mp z).2) rfl
theorem Grow.resv {a : Addr} {o : HO} (h : H a = none) : Grow am (am.resv a) H (L2.upd H a o) := ⟨⟨[], by simp [AM.resv]⟩, fun _ h h' => absurd h h', fun b hb nb => by
  rcases List.mem_cons.mp hb with e | hb
  · rw [e]; exact h
  · exact absurd hb nb, fun b hb => List.mem_cons_of_mem _ hb, fun b u hb _ => by rw [upd_ne (ne_of_none hb h)]; exact hb⟩
theorem RelS.resv (r : RelS K cl am S H) {a : Addr} {o : HO} (h : H a = none) : RelS K cl (am.resv a) S (L2.upd H a o) :=
  ⟨r.len, r.nd, fun k u b h1 h2 => (r.ob k u b h1 h2).mono (Grow.resv h) fun w hw => by rw [upd_ne (ne_of_none hw h)]; exact hw, fun b hb => by
    rcases List.mem_cons.mp hb with e | hb
    · exact ⟨o, by rw [e]; exact upd_same⟩
    · obtain ⟨u, e⟩ := r.there b hb
      exact ⟨u, by rw [upd_ne (ne_of_none e h)]; exact e⟩⟩
theorem Ext.push {a : Addr} (h : a ∈ am.no) : Ext am (am.push a h) H H := ⟨fun n b hb => by
  show (am.ad ++ [a])[n]? = some b
  rw [List.getElem?_append_left (List.getElem?_eq_some_iff.mp hb).1]
  exact hb, fun b o hb nb => ⟨hb, nb⟩⟩
theorem Ext.free {a : Addr} (h : a ∉ am.ad) : Ext am (am.free a h) H H := ⟨fun n b hb => hb, fun b o hb nb => ⟨hb, fun z => nb (List.mem_filter.mp z).1⟩⟩
theorem Grow.push {a : Addr} (g : Grow am am' H H') (h : a ∈ am'.no) (n : H a = none) : Grow am (am'.push a h) H H' := by
  obtain ⟨r, e⟩ := g.pre
  refine ⟨⟨r ++ [a], by show am'.ad ++ [a] = _; rw [e, List.append_assoc]⟩, fun b hb nb => ?_, g.freshNo, g.noK, g.keep⟩
  rcases List.mem_append.mp hb with hb | hb
  · exact g.fresh b hb nb
  · have e : b = a := by simpa using hb
    rw [e]
    exact n
theorem Grow.free {a : Addr} (g : Grow am am' H H') (h : a ∉ am'.ad) (n : a ∉ am.no) : Grow am (am'.free a h) H H' := ⟨g.pre, g.fresh, fun b hb nb => g.freshNo b (List.mem_filter.mp hb).1 nb, fun b hb => List.mem_filter.mpr ⟨g.noK b hb, decide_eq_true fun e => n (by rw [← e]; exact hb)⟩, g.keep⟩
theorem RelS.push (r : RelS K cl am S H) {a : Addr} {o : DO} (h : a ∈ am.no) (n : a ∉ am.ad) (ho : OR K cl am H a o) : RelS K cl (am.push a h) (S ++ [o]) H := by
  refine ⟨?_, ?_, fun k u b h1 h2 => ?_, r.there⟩
  · show (am.ad ++ [a]).length = (S ++ [o]).length
    rw [List.length_append, List.length_append, r.len]
    rfl
  · show (am.ad ++ [a]).Nodup
    exact nd_snoc r.nd n
  · have h2 : (am.ad ++ [a])[k]? = some b := h2
    by_cases hk : k < S.length
    · rw [List.getElem?_append_left hk] at h1
      rw [List.getElem?_append_left (by rw [r.len]; exact hk)] at h2
      exact (r.ob k u b h1 h2).ext (Ext.push h) fun _ z => z
    · have hk' : S.length ≤ k := Nat.le_of_not_lt hk
      rw [List.getElem?_append_right hk'] at h1
      rw [List.getElem?_append_right (by rw [r.len]; exact hk'), r.len] at h2
      cases e : k - S.length with
      | zero =>
        rw [e] at h1 h2
        cases h1
        cases h2
        exact ho.ext (Ext.push h) fun _ z => z
      | succ m => rw [e] at h1; simp at h1
theorem RelS.free (r : RelS K cl am S H) {a : Addr} (h : a ∉ am.ad) : RelS K cl (am.free a h) S H :=
  ⟨r.len, r.nd, fun k u b h1 h2 => (r.ob k u b h1 h2).ext (Ext.free h) fun _ z => z, fun b hb => r.there b (List.mem_filter.mp hb).1⟩
end
section
variable {K : PySem.W.Frag} {cl : Str → Addr} {am am' : AM} {H H' : Hp} {S S' : Sto}
theorem VRs.length : ∀ {ds : List D} {vs : List V}, VRs K am H ds vs → ds.length = vs.length
  | _, _, .nil => rfl
  | _, _, .cons _ t => by rw [List.length_cons, List.length_cons, VRs.length t]
theorem VRs.get : ∀ {ds : List D} {vs : List V} {i : Nat} {d : D}, VRs K am H ds vs → ds[i]? = some d → ∃ v, vs[i]? = some v ∧ VR K am H d v
  | _, _, i, _, .nil, h => by simp at h
  | _, _, 0, _, .cons h _, e => by simp at e; subst e; exact ⟨_, rfl, h⟩
  | _, _, i + 1, _, .cons _ t, e => by
    obtain ⟨v, h1, h2⟩ := VRs.get (i := i) t (by simpa using e)
    exact ⟨v, by simpa using h1, h2⟩
theorem VRs.append : ∀ {ds es : List D} {vs us : List V}, VRs K am H ds vs → VRs K am H es us → VRs K am H (ds ++ es) (vs ++ us)
  | _, _, _, _, .nil, h => h
  | _, _, _, _, .cons h t, h' => .cons h (VRs.append t h')
theorem VRs.take : ∀ {ds : List D} {vs : List V} (n : Nat), VRs K am H ds vs → VRs K am H (ds.take n) (vs.take n)
  | _, _, 0, _ => by simpa using VRs.nil
  | _, _, n + 1, .nil => by simpa using VRs.nil
  | _, _, n + 1, .cons h t => by simpa using VRs.cons h (VRs.take n t)
theorem VRs.drop : ∀ {ds : List D} {vs : List V} (n : Nat), VRs K am H ds vs → VRs K am H (ds.drop n) (vs.drop n)
  | _, _, 0, h => by simpa using h
  | _, _, n + 1, .nil => by simpa using VRs.nil
  | _, _, n + 1, .cons h t => by simpa using VRs.drop n t
theorem VRs.setA : ∀ {ds : List D} {vs : List V} (i : Nat) {d : D} {v : V}, VRs K am H ds vs → VR K am H d v → VRs K am H (ds.set i d) (vs.set i v)
  | _, _, _, _, _, .nil, _ => by simpa using VRs.nil
  | _, _, 0, _, _, .cons _ t, h => by simpa using VRs.cons h t
  | _, _, i + 1, _, _, .cons h t, h' => by simpa using VRs.cons h (VRs.setA i t h')
theorem VRs.nil_iff {ds : List D} {vs : List V} (h : VRs K am H ds vs) : vs = [] ↔ ds = [] := by
  cases h with
  | nil => simp
  | cons _ _ => simp
theorem VRs.reverse : ∀ {ds : List D} {vs : List V}, VRs K am H ds vs → VRs K am H ds.reverse vs.reverse
  | _, _, .nil => .nil
  | _, _, .cons h t => by
    rw [List.reverse_cons, List.reverse_cons]
    exact (VRs.reverse t).append (.cons h .nil)
/-- a new tuple -/
theorem VR.tupNew {ds : List D} {vs : List V} {p : Addr} {o : Obj} (r : RelS K cl am S H) (h : VRs K am H ds vs) (hp : H p = none) (ho : o.dict = none) : VR K am (upd H p (.frz o (.tup vs))) (.tup ds) (.ref p) :=
  .tup (.inl ⟨o, upd_same, ho, r.new hp⟩) (h.mono (Grow.upd hp))
theorem VR.lstNew {ds : List D} {vs : List V} {p : Addr} (r : RelS K cl am S H) (h : VRs K am H ds vs) (hp : H p = none) : VR K am (upd H p (.lst vs)) (.lst ds) (.ref p) :=
  .lst upd_same (r.new hp) (h.mono (Grow.upd hp))
end
/-- of an evaluation: R ties the pure result to the real one; W is what is wished of an exception at the slots σ -/
noncomputable def Post (K : PySem.W.Frag) (cl : Str → Addr) (W : WX) (σ : L2.St) {α β : Type} (R : AM → Hp → α → β → Prop) (am : AM) (H : Hp) (r : Res α) (Q : β → Hp → Prop) : Prop := match r with
  | .ok a S => ∀ am' b H', Grow am am' H H' → RelS K cl am' S H' → R am' H' a b → Q b H'
  | .exc c S => ∀ am' H', Grow am am' H H' → RelS K cl am' S H' → W (.ref (cl c)) none σ H'
  | .bad => False
/-- the reading of a pure evaluation -/
noncomputable def TD (K : PySem.W.Frag) (cl : Str → Addr) (W : WX) {α β : Type} (R : AM → Hp → α → β → Prop) (f : Ev α) : L2.St → Hp → (β → Hp → Prop) → Prop := fun σ H Q =>
  ∃ am e S, RelS K cl am S H ∧ RelE K am H e σ ∧ Post K cl W σ R am H (f e S) Q
noncomputable abbrev RB : AM → Hp → Bool → Bool → Prop := fun _ _ a b => a = b
noncomputable def PostS (K : PySem.W.Frag) (cl : Str → Addr) (W : WX) (am : AM) (H : Hp) (r : SRes) (E : Ends) : Prop := match r with
  | .next e S => ∀ am' σ H', Grow am am' H H' → RelS K cl am' S H' → RelE K am' H' e σ → E.nx σ H'
  | .brk e S => ∀ am' σ H', Grow am am' H H' → RelS K cl am' S H' → RelE K am' H' e σ → E.bk σ H'
  | .cnt e S => ∀ am' σ H', Grow am am' H H' → RelS K cl am' S H' → RelE K am' H' e σ → E.ct σ H'
  | .ret d S => ∀ am' v H', Grow am am' H H' → RelS K cl am' S H' → VR K am' H' d v → E.rt v H'
  | .exc c e S => ∀ am' σ H', Grow am am' H H' → RelS K cl am' S H' → RelE K am' H' e σ → W (.ref (cl c)) none σ H'
  | .bad => False
noncomputable def TDs (K : PySem.W.Frag) (cl : Str → Addr) (W : WX) (f : Stm) : TS := fun E σ H => ∃ am e S, RelS K cl am S H ∧ RelE K am H e σ ∧ PostS K cl W am H (f e S) E
section
variable {K : PySem.W.Frag} {cl : Str → Addr} {W : WX} {σ : L2.St} {α β γ δ : Type} {R : AM → Hp → α → β → Prop} {R' : AM → Hp → γ → δ → Prop} {am am' : AM} {H H' : Hp} {S : Sto}
theorem Post.imp {r : Res α} {Q Q' : β → Hp → Prop} (p : Post K cl W σ R am H r Q) (h : ∀ b H', Q b H' → Q' b H') : Post K cl W σ R am H r Q' := by
  cases r with
  | ok a S => exact fun am' b H' g rs rb => h _ _ (p am' b H' g rs rb)
  | exc c S => exact p
  | bad => exact p
/-- a step of an evaluation, then the rest -/
theorem Post.step {r : Res α} {k : α → Sto → Res γ} {Q : δ → Hp → Prop} (p : Post K cl W σ R' am H (r.bind k) Q) :
    Post K cl W σ R am H r (fun b H1 => ∃ am1 S1 a, r = .ok a S1 ∧ Grow am am1 H H1 ∧ RelS K cl am1 S1 H1 ∧ R am1 H1 a b ∧ Post K cl W σ R' am1 H1 (k a S1) Q) := by
  cases r with
  | ok a S =>
    intro am1 b H1 g rs rb
    refine ⟨am1, S, a, rfl, g, rs, rb, ?_⟩
    have p : Post K cl W σ R' am H (k a S) Q := p
    cases e : k a S with
    | ok c S2 =>
      rw [e] at p
      exact fun am2 d H2 g2 rs2 rd => p am2 d H2 (g.trans g2) rs2 rd
    | exc c S2 =>
      rw [e] at p
      exact fun am2 H2 g2 rs2 => p am2 H2 (g.trans g2) rs2
    | bad => rw [e] at p; exact p
  | exc c S => exact p
  | bad => exact p
theorem PostS.grow {r : SRes} {E : Ends} (g : Grow am am' H H') (p : PostS K cl W am H r E) : PostS K cl W am' H' r E := by
  cases r with
  | next e S => exact fun am2 σ H2 g2 rs re => p am2 σ H2 (g.trans g2) rs re
  | brk e S => exact fun am2 σ H2 g2 rs re => p am2 σ H2 (g.trans g2) rs re
  | cnt e S => exact fun am2 σ H2 g2 rs re => p am2 σ H2 (g.trans g2) rs re
  | ret d S => exact fun am2 v H2 g2 rs rv => p am2 v H2 (g.trans g2) rs rv
  | exc c e S => exact fun am2 σ H2 g2 rs re => p am2 σ H2 (g.trans g2) rs re
  | bad => exact p
/-- an evaluation, then a statement's rest -/
noncomputable def Res.stm {α : Type} (r : Res α) (e : En) (k : α → Sto → SRes) : SRes := match r with
  | .ok a S => k a S
  | .exc c S => .exc c e S
  | .bad => .bad
theorem PostS.step {r : Res α} {k : α → Sto → SRes} {E : Ends} {e : En} (re : RelE K am H e σ) (p : PostS K cl W am H (r.stm e k) E) :
    Post K cl W σ R am H r (fun b H1 => ∃ am1 S1 a, r = .ok a S1 ∧ Grow am am1 H H1 ∧ RelS K cl am1 S1 H1 ∧ R am1 H1 a b ∧ PostS K cl W am1 H1 (k a S1) E) := by
  cases r with
  | ok a S =>
    intro am1 b H1 g rs rb
    exact ⟨am1, S, a, rfl, g, rs, rb, PostS.grow g p⟩
  | exc c S => exact fun am' H' g rs => p am' σ H' g rs (re.mono g)
  | bad => exact p
end
@[simp] theorem Res.stm_ok {α : Type} {a : α} {S : Sto} {e : En} {k : α → Sto → SRes} : (Res.ok a S).stm e k = k a S := id rfl
@[simp] theorem Res.stm_exc {α : Type} {c : Str} {S : Sto} {e : En} {k : α → Sto → SRes} : (Res.exc c S : Res α).stm e k = .exc c e S := id rfl
@[simp] theorem Res.stm_bad {α : Type} {e : En} {k : α → Sto → SRes} : (Res.bad : Res α).stm e k = .bad := id rfl
noncomputable def SRes.seq (r : SRes) (k : En → Sto → SRes) : SRes := match r with
  | .next e S => k e S
  | r => r
@[simp] theorem SRes.seq_next {e : En} {S : Sto} {k : En → Sto → SRes} : (SRes.next e S).seq k = k e S := id rfl
@[simp] theorem SRes.seq_ret {d : D} {S : Sto} {k : En → Sto → SRes} : (SRes.ret d S).seq k = .ret d S := id rfl
@[simp] theorem SRes.seq_brk {e : En} {S : Sto} {k : En → Sto → SRes} : (SRes.brk e S).seq k = .brk e S := id rfl
@[simp] theorem SRes.seq_cnt {e : En} {S : Sto} {k : En → Sto → SRes} : (SRes.cnt e S).seq k = .cnt e S := id rfl
@[simp] theorem SRes.seq_exc {c : Str} {e : En} {S : Sto} {k : En → Sto → SRes} : (SRes.exc c e S).seq k = .exc c e S := id rfl
@[simp] theorem SRes.seq_bad {k : En → Sto → SRes} : (SRes.bad).seq k = .bad := id rfl
section
variable {X : Cx}
theorem _root_.L2.PE.imp {e : Expr} {t t' : TE} (h : PE X e t) (i : ∀ σ H Q, t' σ H Q → t σ H Q) : PE X e t' := ⟨fun pins s σ H Q I q => h.run pins s σ H Q I (i σ H Q q)⟩
theorem _root_.L2.PT.imp {e : Expr} {t t' : TT} (h : PT X e t) (i : ∀ σ H Q, t' σ H Q → t σ H Q) : PT X e t' := ⟨fun pins s σ H Q I q => h.run pins s σ H Q I (i σ H Q q)⟩
theorem _root_.L2.PW.imp {e : Expr} {t t' : TT} (h : PW X e t) (i : ∀ σ H Q, t' σ H Q → t σ H Q) : PW X e t' := ⟨fun wh pins s σ H Q I q => h.run wh pins s σ H Q I (i σ H Q q)⟩
theorem _root_.L2.PA.imp {es : List Expr} {t t' : TA} (h : PA X es t) (i : ∀ σ H Q, t' σ H Q → t σ H Q) : PA X es t' := ⟨fun pos pins s σ H Q I q => h.run pos pins s σ H Q I (i σ H Q q)⟩
theorem _root_.L2.PS.imp {st : Stmt} {t t' : TS} (h : PS X st t) (i : ∀ E σ H, t' E σ H → t E σ H) : PS X st t' := ⟨fun pins s σ H E I q => h.run pins s σ H E I (i E σ H q)⟩
theorem _root_.L2.PSs.imp {st : List Stmt} {t t' : TS} (h : PSs X st t) (i : ∀ E σ H, t' E σ H → t E σ H) : PSs X st t' := ⟨fun pins s σ H E I q => h.run pins s σ H E I (i E σ H q)⟩
end
noncomputable abbrev QE (cl : Str → Addr) (W : WX) (X : Cx) (e : Expr) (f : Ev D) : Prop := PE X e (TD X.K cl W (VR X.K) f)
noncomputable abbrev QT (cl : Str → Addr) (W : WX) (X : Cx) (e : Expr) (f : Ev Bool) : Prop := PT X e (TD X.K cl W RB f)
noncomputable abbrev QW (cl : Str → Addr) (W : WX) (X : Cx) (e : Expr) (f : Ev Bool) : Prop := PW X e (TD X.K cl W RB f)
noncomputable abbrev QA (cl : Str → Addr) (W : WX) (X : Cx) (es : List Expr) (f : Ev (List D)) : Prop := PA X es (TD X.K cl W (VRs X.K) f)
noncomputable abbrev QS (cl : Str → Addr) (W : WX) (X : Cx) (st : Stmt) (f : Stm) : Prop := PS X st (TDs X.K cl W f)
noncomputable abbrev QB (cl : Str → Addr) (W : WX) (X : Cx) (st : List Stmt) (f : Stm) : Prop := PSs X st (TDs X.K cl W f)
end Pu
set_option Elab.async false
set_option linter.all false
set_option maxRecDepth 100000
namespace Pu
open PySem PySem.Spec PyProof.Rows L2
/-- a list that may be read -/
noncomputable def lsOf (S : Sto) : D → Option (List D)
  | .lst xs => some xs
  | .fls xs => some xs
  | .ref k => match S[k]? with
    | some (.lst xs) => some xs
    | _ => none
  | _ => none
/-- a list that is not locked -/
noncomputable def lvOf (S : Sto) : D → Option (List D)
  | .lst xs => some xs
  | .ref k => match S[k]? with
    | some (.lst xs) => some xs
    | _ => none
  | _ => none
noncomputable def dcOf (S : Sto) : D → Option (List (Key × D))
  | .dct xs => some xs
  | .ref k => match S[k]? with
    | some (.dct xs) => some xs
    | _ => none
  | _ => none
@[simp] theorem lsOf_lst {S : Sto} {xs : List D} : lsOf S (.lst xs) = some xs := id rfl
@[simp] theorem lsOf_ref {S : Sto} {k : Nat} {xs : List D} (h : S[k]? = some (.lst xs)) : lsOf S (.ref k) = some xs := by
  simp only [lsOf, h]
@[simp] theorem lsOf_fls {S : Sto} {xs : List D} : lsOf S (.fls xs) = some xs := id rfl
@[simp] theorem lvOf_lst {S : Sto} {xs : List D} : lvOf S (.lst xs) = some xs := id rfl
@[simp] theorem lvOf_ref {S : Sto} {k : Nat} {xs : List D} (h : S[k]? = some (.lst xs)) : lvOf S (.ref k) = some xs := by
  simp only [lvOf, h]
@[simp] theorem dcOf_dct {S : Sto} {xs : List (Key × D)} : dcOf S (.dct xs) = some xs := id rfl
@[simp] theorem dcOf_ref {S : Sto} {k : Nat} {xs : List (Key × D)} (h : S[k]? = some (.dct xs)) : dcOf S (.ref k) = some xs := by
  simp only [dcOf, h]
section
variable {K : PySem.W.Frag} {cl : Str → Addr} {am : AM} {H : Hp} {S : Sto} {d : D} {v : V}
theorem lsOf_ok (r : RelS K cl am S H) (h : VR K am H d v) {xs : List D} (e : lsOf S d = some xs) : ∃ a vs, v = .ref a ∧ SqL K H a vs ∧ VRs K am H xs vs := by
  cases h with
  | lst h1 h2 h3 =>
    cases e
    exact ⟨_, _, rfl, .inl (.inl h1), h3⟩
  | fls h1 h3 =>
    cases e
    exact ⟨_, _, rfl, h1.seq, h3⟩
  | ref h1 =>
    rename_i n a
    simp only [lsOf] at e
    cases q : S[n]? with
    | none => rw [q] at e; cases e
    | some o =>
      rw [q] at e
      cases o with
      | lst ys =>
        cases e
        obtain ⟨vs, h2, h3⟩ := r.ob n _ a q h1
        exact ⟨a, vs, rfl, .inl (.inl h2), h3⟩
      | dct ys => cases e
      | ins c fs => cases e
      | fdc _ _ _ => cases e
      | tdc _ => cases e
  | _ => cases e
theorem lvOf_ok (r : RelS K cl am S H) (h : VR K am H d v) {xs : List D} (e : lvOf S d = some xs) : ∃ a vs, v = .ref a ∧ H a = some (.lst vs) ∧ VRs K am H xs vs := by
  cases h with
  | lst h1 h2 h3 =>
    cases e
    exact ⟨_, _, rfl, h1, h3⟩
  | ref h1 =>
    rename_i n a
    simp only [lvOf] at e
    cases q : S[n]? with
    | none => rw [q] at e; cases e
    | some o =>
      rw [q] at e
      cases o with
      | lst ys =>
        cases e
        obtain ⟨vs, h2, h3⟩ := r.ob n _ a q h1
        exact ⟨a, vs, rfl, h2, h3⟩
      | dct ys => cases e
      | ins c fs => cases e
      | fdc _ _ _ => cases e
      | tdc _ => cases e
  | _ => cases e
theorem dcOf_ok (r : RelS K cl am S H) (h : VR K am H d v) {xs : List (Key × D)} (e : dcOf S d = some xs) : ∃ a vs, v = .ref a ∧ H a = some (.dK vs) ∧ VRk K am H xs vs := by
  cases h with
  | dct h1 h2 h3 =>
    cases e
    exact ⟨_, _, rfl, h1, h3⟩
  | ref h1 =>
    rename_i n a
    simp only [dcOf] at e
    cases q : S[n]? with
    | none => rw [q] at e; cases e
    | some o =>
      rw [q] at e
      cases o with
      | dct ys =>
        cases e
        obtain ⟨vs, h2, h3⟩ := r.ob n _ a q h1
        exact ⟨a, vs, rfl, h2, h3⟩
      | lst ys => cases e
      | ins c fs => cases e
      | fdc _ _ _ => cases e
      | tdc _ => cases e
  | _ => cases e
end
noncomputable def eC (d : D) : Ev D := fun _ S => .ok d S
noncomputable def eVar (i : Nat) : Ev D := fun e S => match e[i]? with
  | some (some d) => .ok d S
  | _ => .bad
section
variable {cl : Str → Addr} {W : WX} {X : Cx}
theorem imp_c {d : D} {v : V} (h : ∀ am H, VR X.K am H d v) : ∀ σ H Q, TD X.K cl W (VR X.K) (eC d) σ H Q → tC v σ H Q := fun σ H Q ⟨am, e, S, rs, re, p⟩ => p am v H .refl rs (h am H)
theorem qe_int {i j pos} : QE cl W X (.Constant (.int i) j pos) (eC (.int i)) := pe_int.imp (imp_c fun _ _ => .int i)
theorem qe_bl {b j pos} : QE cl W X (.Constant (.bool b) j pos) (eC (.bl b)) := pe_bl.imp (imp_c fun _ _ => .bl b)
theorem qv (i : Nat) {x : Str} {pos : Pos} (hN : X.N[i]? = some x := by rfl) (hv : Vis X.env.scope x := by first | exact Or.inl rfl | exact Or.inr (Or.inl rfl) | exact Or.inr (Or.inr rfl)) (hd : (x == ("__debug__" : Str)) = false := by decide)
    (hcd : (x == ("__classdict__" : Str)) = false := by decide) : QE cl W X (.Name x pos) (eVar i) := (pe_var hN hv hd hcd).imp fun σ H Q ⟨am, e, S, rs, re, p⟩ => by
  unfold eVar at p
  cases q : e[i]? with
  | none => rw [q] at p; exact p.elim
  | some z =>
    rw [q] at p
    cases z with
    | none => exact p.elim
    | some d =>
      obtain ⟨v, h1, h2⟩ := re.get i d q
      exact ⟨v, h1, p am v H .refl rs h2⟩
end
noncomputable def e2 (op : D → D → Sto → Res D) (f g : Ev D) : Ev D := fun e S => (f e S).bind fun x S => (g e S).bind fun y S => op x y S
noncomputable def e1 (op : D → Sto → Res D) (f : Ev D) : Ev D := fun e S => (f e S).bind fun x S => op x S
noncomputable def Ok2 (K : PySem.W.Frag) (cl : Str → Addr) (r : R2) (op : D → D → Sto → Res D) : Prop :=
  ∀ (W : WX) (σ : L2.St) (am : AM) (S : Sto) (H : Hp) (d e : D) (v u : V) (Q : VK), RelS K cl am S H → VR K am H d v → VR K am H e u → Post K cl W σ (VR K) am H (op d e S) Q → r v u H Q
noncomputable def Ok1 (K : PySem.W.Frag) (cl : Str → Addr) (r : V → Hp → VK → Prop) (op : D → Sto → Res D) : Prop :=
  ∀ (W : WX) (σ : L2.St) (am : AM) (S : Sto) (H : Hp) (d : D) (v : V) (Q : VK), RelS K cl am S H → VR K am H d v → Post K cl W σ (VR K) am H (op d S) Q → r v H Q
section
variable {cl : Str → Addr} {W : WX} {X : Cx} {a b c : Expr} {f g h : Ev D} {pos : Pos}
theorem imp_2 {r : R2} {op : D → D → Sto → Res D} (ok : Ok2 X.K cl r op) : ∀ σ H Q, TD X.K cl W (VR X.K) (e2 op f g) σ H Q → tOp r (TD X.K cl W (VR X.K) f) (TD X.K cl W (VR X.K) g) σ H Q := fun σ H Q ⟨am, e, S, rs, re, p⟩ =>
  ⟨am, e, S, rs, re, (Post.step p).imp fun x H1 ⟨am1, S1, d1, _, g1, rs1, rv1, p1⟩ =>
    ⟨am1, e, S1, rs1, re.mono g1, (Post.step p1).imp fun y H2 ⟨am2, S2, d2, _, g2, rs2, rv2, p2⟩ => ok W σ am2 S2 H2 d1 d2 x y Q rs2 (rv1.mono g2) rv2 p2⟩⟩
theorem imp_1 {r : V → Hp → VK → Prop} {op : D → Sto → Res D} (ok : Ok1 X.K cl r op) : ∀ σ H Q, TD X.K cl W (VR X.K) (e1 op f) σ H Q → tUn r (TD X.K cl W (VR X.K) f) σ H Q := fun σ H Q ⟨am, e, S, rs, re, p⟩ =>
  ⟨am, e, S, rs, re, (Post.step p).imp fun x H1 ⟨am1, S1, d1, _, g1, rs1, rv1, p1⟩ => ok W σ am1 S1 H1 d1 x Q rs1 rv1 p1⟩
theorem qe_bin {op : Operator} {r : R2} {o : D → D → Sto → Res D} (ho : OpR X (binaryOp op) r) (ok : Ok2 X.K cl r o) (ha : QE cl W X a f) (hb : QE cl W X b g) : QE cl W X (.BinOp a op b pos) (e2 o f g) := (pe_op ho ha hb).imp (imp_2 ok)
theorem qe_un {op : UnaryOp} {r : V → Hp → VK → Prop} {o : D → Sto → Res D} (ho : UnR X (unaryOp op) r) (ok : Ok1 X.K cl r o) (ha : QE cl W X a f) : QE cl W X (.UnaryOp op a pos) (e1 o f) := (pe_un ho ha).imp (imp_1 ok)
/-- a value that has to be True or False -/
noncomputable def toB (d : D) (S : Sto) : Res Bool := match d with
  | .bl b => .ok b S
  | _ => .bad
@[simp] theorem toB_bl {b : Bool} {S : Sto} : toB (.bl b) S = .ok b S := id rfl
noncomputable def eTB (f : Ev D) : Ev Bool := fun e S => (f e S).bind toB
theorem imp_TB : ∀ σ H Q, TD X.K cl W RB (eTB f) σ H Q → TD X.K cl W (VR X.K) f σ H (fun x H' => ∃ k, x = .bl k ∧ Q k H') := fun σ H Q ⟨am, e, S, rs, re, p⟩ =>
  ⟨am, e, S, rs, re, (Post.step p).imp fun x H1 ⟨am1, S1, d1, _, g1, rs1, rv1, p1⟩ => by
    cases d1 with
    | bl b =>
      cases rv1
      exact ⟨b, rfl, p1 am1 b H1 .refl rs1 rfl⟩
    | _ => exact p1.elim⟩
theorem qe_cmp {op : CmpOp} {r : R2} {o : D → D → Sto → Res D} (ho : OpR X (compareOp op) r) (ok : Ok2 X.K cl r o) (ha : QE cl W X a f) (hb : QE cl W X b g) (hm : behindInMarks op b = false) : QE cl W X (.Compare a [op] [b] pos) (e2 o f g) := (pe_cmpR ho ha hb hm).imp (imp_2 ok)
theorem qt_cmp {op : CmpOp} {r : R2} {o : D → D → Sto → Res D} (ho : OpR X (compareOp op) r) (ok : Ok2 X.K cl r o) (ha : QE cl W X a f) (hb : QE cl W X b g) (hm : behindInMarks op b = false) : QT cl W X (.Compare a [op] [b] pos) (eTB (e2 o f g)) :=
  (pt_cmpR ho ha hb hm).imp fun σ H Q t => imp_2 ok _ _ _ (imp_TB _ _ _ t)
/-- a op1 b op2 c -/
noncomputable def eCh (o o' : D → D → Sto → Res D) (f g h : Ev D) : Ev D := fun e S => (f e S).bind fun x S => (g e S).bind fun y S => (o x y S).bind fun z S => (toB z S).bind fun k S =>
  if k = true then (h e S).bind fun w S => o' y w S else .ok (.bl false) S
end
noncomputable def catL (x y : Option (List D)) (S : Sto) : Res D := match x, y with
  | some a, some b => if a.length + b.length ≤ sizeLine then .ok (.lst (a ++ b)) S else .bad
  | _, _ => .bad
noncomputable def addD (d e : D) (S : Sto) : Res D := match d, e with
  | .int a, .int b => .ok (.int (a + b)) S
  | .str a, .str b => if a.length + b.length ≤ sizeLine then .ok (.str (a ++ b)) S else .bad
  | .tup a, .tup b => if a.length + b.length ≤ sizeLine then .ok (.tup (a ++ b)) S else .bad
  | _, _ => catL (lvOf S d) (lvOf S e) S
noncomputable def FitMul (i j : Int) : Prop := (-(2 ^ 64) < i ∧ i < 2 ^ 64) ∨ (-(2 ^ 64) < j ∧ j < 2 ^ 64) ∨ (Builtin.Int.intBits i : Int) + (Builtin.Int.intBits j : Int) ≤ 134217728
noncomputable instance (i j : Int) : Decidable (FitMul i j) := by unfold FitMul; infer_instance
/-- ints in, a value out -/
noncomputable def intD (C : Int → Int → Prop) [∀ i j, Decidable (C i j)] (g : Int → Int → D) (d e : D) (S : Sto) : Res D := match d, e with
  | .int a, .int b => if C a b then .ok (g a b) S else .bad
  | _, _ => .bad
@[simp] theorem intD_int {C : Int → Int → Prop} [∀ i j, Decidable (C i j)] {g : Int → Int → D} {a b : Int} {S : Sto} : intD C g (.int a) (.int b) S = if C a b then .ok (g a b) S else .bad := id rfl
noncomputable abbrev subD := intD (fun _ _ => True) fun i j => .int (i - j)
/-- // and % as Python has them, by a divisor that is not 0 -/
noncomputable def fdivI (i j : Int) : Int := if 0 < j then i / j else (-i) / (-j)
noncomputable def fmodI (i j : Int) : Int := if 0 < j then i % j else -((-i) % (-j))
noncomputable def DivOk (_ j : Int) : Prop := (0 < j ∧ j.natAbs.log2 < 9000) ∨ (j ≠ 0 ∧ j.natAbs < 1073741824)
noncomputable instance (i j : Int) : Decidable (DivOk i j) := by unfold DivOk; infer_instance
noncomputable abbrev fdivD := intD DivOk fun i j => .int (fdivI i j)
noncomputable abbrev modD := intD (fun _ j => j ≠ 0) fun i j => .int (fmodI i j)
noncomputable def PowOk (i j : Int) : Prop := 0 ≤ j ∧ (Builtin.Int.intBits i : Int) * j ≤ 2 ^ 27
noncomputable instance (i j : Int) : Decidable (PowOk i j) := by unfold PowOk; infer_instance
noncomputable abbrev powD := intD PowOk fun i j => .int (i ^ j.toNat)
noncomputable abbrev ltD := intD (fun _ _ => True) fun i j => .bl (decide (i < j))
noncomputable abbrev leD := intD (fun _ _ => True) fun i j => .bl (decide (i ≤ j))
noncomputable abbrev gtD := intD (fun _ _ => True) fun i j => .bl (decide (j < i))
noncomputable abbrev geD := intD (fun _ _ => True) fun i j => .bl (decide (j ≤ i))
theorem fdivI_eq (i j : Int) (h : j ≠ 0) : i.fdiv j = fdivI i j := by
  unfold fdivI
  by_cases h0 : 0 < j
  · rw [if_pos h0, Int.fdiv_eq_ediv_of_nonneg i (by omega)]
  · rw [if_neg h0]
    have e : i.fdiv j = (-i).fdiv (-j) := by rw [Int.neg_fdiv_neg]
    rw [e, Int.fdiv_eq_ediv_of_nonneg _ (by omega)]
theorem fmodI_eq (i j : Int) (h : j ≠ 0) : i.fmod j = fmodI i j := by
  unfold fmodI
  by_cases h0 : 0 < j
  · rw [if_pos h0, Int.fmod_eq_emod_of_nonneg i (by omega)]
  · rw [if_neg h0]
    have e1 : i.fmod j = i - j * i.fdiv j := Int.fmod_def i j
    have e2 : i.fdiv j = (-i) / (-j) := by
      have := fdivI_eq i j h
      unfold fdivI at this
      rw [if_neg h0] at this
      exact this
    have e3 : (-i) % (-j) = -i - (-j) * ((-i) / (-j)) := Int.emod_def _ _
    rw [e1, e2, e3, Int.neg_mul]
    omega
section
variable {cl : Str → Addr} {W : WX} {X : Cx}
theorem ok_intD {C : Int → Int → Prop} [∀ i j, Decidable (C i j)] {g : Int → Int → D} {r : R2} {gv : Int → Int → V} (hg : ∀ am H i j, VR X.K am H (g i j) (gv i j)) (hr : ∀ i j H Q, C i j → Q (gv i j) H → r (.int i) (.int j) H Q) : Ok2 X.K cl r (intD C g) := by
  intro W σ am S H d e v u Q rs h1 h2 p
  cases h1 with
  | int i =>
    cases h2 with
    | int j =>
      rw [intD_int] at p
      by_cases hc : C i j
      · rw [if_pos hc] at p
        exact hr i j H Q hc (p am _ H .refl rs (hg am H i j))
      · rw [if_neg hc] at p
        exact p.elim
    | _ => exact p.elim
  | _ => exact p.elim
theorem ok_add : Ok2 X.K cl (fun x y H Q => (∃ i j, x = .int i ∧ y = .int j ∧ Q (.int (i + j)) H) ∨ (∃ i j, x = .str i ∧ y = .str j ∧ i.length + j.length ≤ sizeLine ∧ Q (.str (i ++ j)) H) ∨ rCatF X.K x y H Q ∨ rCat x y H Q) addD := by
  intro W σ am S H d e v u Q rs h1 h2 p
  have cat : Post X.K cl W σ (VR X.K) am H (catL (lvOf S d) (lvOf S e) S) Q → rCat v u H Q := fun p => by
    cases e1 : lvOf S d with
    | none => rw [e1] at p; exact p.elim
    | some xs =>
      cases e2 : lvOf S e with
      | none => rw [e1, e2] at p; exact p.elim
      | some ys =>
        rw [e1, e2] at p
        obtain ⟨a, vs, ev, r1, hs⟩ := lvOf_ok rs h1 e1
        obtain ⟨b, us, eu, r2, hs2⟩ := lvOf_ok rs h2 e2
        unfold catL at p
        simp only at p
        by_cases hz : xs.length + ys.length ≤ sizeLine
        · rw [if_pos hz] at p
          exact ⟨a, b, vs, us, ev, eu, r1, r2, by rw [← hs.length, ← hs2.length]; exact hz, fun q hq => p am _ _ (Grow.upd hq) (rs.upd hq) (VR.lstNew rs (hs.append hs2) hq)⟩
        · rw [if_neg hz] at p
          exact p.elim
  cases h1 with
  | int i =>
    cases h2 with
    | int j => exact .inl ⟨i, j, rfl, rfl, p am _ H .refl rs (.int _)⟩
    | _ => exact p.elim
  | str x =>
    cases h2 with
    | str y =>
      simp only [addD] at p
      by_cases hz : x.length + y.length ≤ sizeLine
      · rw [if_pos hz] at p
        exact .inr (.inl ⟨x, y, rfl, rfl, hz, p am _ H .refl rs (.str _)⟩)
      · rw [if_neg hz] at p
        exact p.elim
    | _ => exact p.elim
  | @tup a1 vs1 ds1 t1 hs1 =>
    cases h2 with
    | @tup a2 vs2 ds2 t2 hs2 =>
      simp only [addD] at p
      by_cases hz : ds1.length + ds2.length ≤ sizeLine
      · rw [if_pos hz] at p
        refine .inr (.inr (.inl ⟨a1, a2, vs1, vs2, rfl, rfl, t1.seq, t2.seq, by rw [← hs1.length, ← hs2.length]; exact hz, fun e1 => ?_, fun _ e2 => ?_, fun _ _ q ob hq hd => ?_⟩))
        · have e3 := hs1.nil_iff.mp e1
          subst e3
          exact p am _ H .refl rs (.tup t2 hs2)
        · have e3 := hs2.nil_iff.mp e2
          subst e3
          rw [List.append_nil] at p
          exact p am _ H .refl rs (.tup t1 hs1)
        · exact p am _ _ (Grow.upd hq) (rs.upd hq) (VR.tupNew rs (hs1.append hs2) hq hd)
      · rw [if_neg hz] at p
        exact p.elim
    | _ => exact p.elim
  | lst _ _ _ => exact .inr (.inr (.inr (cat (by cases h2 <;> exact p))))
  | ref _ => exact .inr (.inr (.inr (cat (by cases h2 <;> exact p))))
  | _ => cases h2 <;> exact p.elim
theorem op_addD : OpR X (binaryOp .Add) (fun x y H Q => (∃ i j, x = .int i ∧ y = .int j ∧ Q (.int (i + j)) H) ∨ (∃ i j, x = .str i ∧ y = .str j ∧ i.length + j.length ≤ sizeLine ∧ Q (.str (i ++ j)) H) ∨ rCatF X.K x y H Q ∨ rCat x y H Q) :=
  OpR.or (by exact op_add) (OpR.or op_add_str (OpR.or op_catF op_cat))
end
end Pu
set_option Elab.async false
set_option linter.all false
set_option maxRecDepth 100000
namespace Pu
open PySem PySem.Spec PyProof.Rows L2
section
variable {cl : Str → Addr} {W : WX} {X : Cx} {a b c : Expr} {f g h : Ev D} {pos : Pos}
theorem qe_add (ha : QE cl W X a f) (hb : QE cl W X b g) : QE cl W X (.BinOp a .Add b pos) (e2 addD f g) := qe_bin op_addD ok_add ha hb
/-- * -/
noncomputable def repL (x : Option (List D)) (k : Int) (S : Sto) : Res D := match x with
  | some xs => if -(2 ^ 63) ≤ k ∧ k < 2 ^ 63 ∧ xs.length * k.toNat ≤ sizeLine then .ok (.lst (List.replicate k.toNat xs).flatten) S else .bad
  | none => .bad
noncomputable def mulD (d e : D) (S : Sto) : Res D := match d, e with
  | .int a, .int b => if FitMul a b then .ok (.int (a * b)) S else .bad
  | x, .int k => repL (lvOf S x) k S
  | _, _ => .bad
noncomputable def rMulA : R2 := fun x y H Q => rI CMul (fun i j => .int (i * j)) x y H Q ∨ rI CMulX (fun i j => .int (i * j)) x y H Q ∨ rRep x y H Q
theorem op_mulA : OpR X (binaryOp .Mult) rMulA := OpR.or op_mul (OpR.or op_mulX op_rep)
theorem VRs.replicate {K : PySem.W.Frag} {am : AM} {H : Hp} {ds : List D} {vs : List V} (h : VRs K am H ds vs) : ∀ n, VRs K am H (List.replicate n ds).flatten (List.replicate n vs).flatten
  | 0 => .nil
  | n + 1 => by
    rw [List.replicate_succ, List.replicate_succ, List.flatten_cons, List.flatten_cons]
    exact h.append (VRs.replicate h n)
theorem ok_mul : Ok2 X.K cl rMulA mulD := by
  intro W σ am S H d e v u Q rs h1 h2 p
  have rep : ∀ k, u = .int k → Post X.K cl W σ (VR X.K) am H (repL (lvOf S d) k S) Q → rMulA v u H Q := fun k hu p => by
    cases e1 : lvOf S d with
    | none => rw [e1] at p; exact p.elim
    | some xs =>
      rw [e1] at p
      obtain ⟨a, vs, ev, r1, hs⟩ := lvOf_ok rs h1 e1
      unfold repL at p
      simp only at p
      by_cases hz : -(2 ^ 63) ≤ k ∧ k < 2 ^ 63 ∧ xs.length * k.toNat ≤ sizeLine
      · rw [if_pos hz] at p
        exact .inr (.inr ⟨a, k, vs, ev, hu, r1, hz.1, hz.2.1, by rw [← hs.length]; exact hz.2.2, fun q hq => p am _ _ (Grow.upd hq) (rs.upd hq) (VR.lstNew rs (hs.replicate _) hq)⟩)
      · rw [if_neg hz] at p
        exact p.elim
  cases h2 with
  | int j =>
    cases h1 with
    | int i =>
      simp only [mulD] at p
      by_cases hz : FitMul i j
      · rw [if_pos hz] at p
        have q := p am (.int (i * j)) H .refl rs (.int _)
        rcases hz with hz | hz | hz
        · exact .inl ⟨i, j, rfl, rfl, .inl hz, q⟩
        · exact .inl ⟨i, j, rfl, rfl, .inr hz, q⟩
        · exact .inr (.inl ⟨i, j, rfl, rfl, hz, q⟩)
      · rw [if_neg hz] at p
        exact p.elim
    | _ => exact rep j rfl p
  | _ => cases h1 <;> exact p.elim
theorem qe_mul (ha : QE cl W X a f) (hb : QE cl W X b g) : QE cl W X (.BinOp a .Mult b pos) (e2 mulD f g) := qe_bin op_mulA ok_mul ha hb
theorem op_fdivA : OpR X (binaryOp .FloorDiv) (fun x y H Q => rI CDivW (fun i j => .int (i / j)) x y H Q ∨ rI CDivN (fun i j => .int (i.fdiv j)) x y H Q) := OpR.or op_fdivW op_fdivN
theorem qe_fdiv (ha : QE cl W X a f) (hb : QE cl W X b g) : QE cl W X (.BinOp a .FloorDiv b pos) (e2 fdivD f g) :=
  qe_bin op_fdivA (ok_intD (gv := fun i j => .int (fdivI i j)) (fun _ _ _ _ => .int _) fun i j H Q hc q => by
    rcases hc with hc | hc
    · refine .inl ⟨i, j, rfl, rfl, hc, ?_⟩
      have e : fdivI i j = i / j := if_pos hc.1
      have q' : Q (.int (fdivI i j)) H := q
      rw [e] at q'
      exact q'
    · refine .inr ⟨i, j, rfl, rfl, hc, ?_⟩
      have q' : Q (.int (fdivI i j)) H := q
      rw [← fdivI_eq i j hc.1] at q'
      exact q') ha hb
theorem qe_mod (ha : QE cl W X a f) (hb : QE cl W X b g) : QE cl W X (.BinOp a .Mod b pos) (e2 modD f g) :=
  qe_bin op_modN (ok_intD (gv := fun i j => .int (fmodI i j)) (fun _ _ _ _ => .int _) fun i j H Q hc q => ⟨i, j, rfl, rfl, hc, by
    have q' : Q (.int (fmodI i j)) H := q
    rw [← fmodI_eq i j hc] at q'
    exact q'⟩) ha hb
theorem op_powA : OpR X (binaryOp .Pow) (rI PowOk fun i j => .int (i ^ j.toNat)) := opI fun _ _ _ _ _ _ _ hc q => pow_int hc.1 hc.2 q
theorem qe_pow (ha : QE cl W X a f) (hb : QE cl W X b g) : QE cl W X (.BinOp a .Pow b pos) (e2 powD f g) :=
  qe_bin op_powA (ok_intD (gv := fun i j => .int (i ^ j.toNat)) (fun _ _ _ _ => .int _) fun i j H Q hc q => ⟨i, j, rfl, rfl, hc, q⟩) ha hb
noncomputable def negD (d : D) (S : Sto) : Res D := match d with
  | .int i => .ok (.int (-i)) S
  | _ => .bad
theorem qe_neg (ha : QE cl W X a f) : QE cl W X (.UnaryOp .USub a pos) (e1 negD f) := qe_un un_neg (fun W σ am S H d v Q rs h1 p => by
  cases h1 with
  | int i => exact ⟨i, rfl, p am _ H .refl rs (.int _)⟩
  | _ => exact p.elim) ha
theorem ok_ltD : Ok2 X.K cl (rI0 fun i j => .bl (decide (i < j))) ltD := ok_intD (gv := fun i j => .bl (decide (i < j))) (fun _ _ _ _ => .bl _) fun i j H Q _ q => ⟨i, j, rfl, rfl, q⟩
theorem ok_gtD : Ok2 X.K cl (rI0 fun i j => .bl (decide (j < i))) gtD := ok_intD (gv := fun i j => .bl (decide (j < i))) (fun _ _ _ _ => .bl _) fun i j H Q _ q => ⟨i, j, rfl, rfl, q⟩
theorem ok_geD : Ok2 X.K cl (rI0 fun i j => .bl (decide (j ≤ i))) geD := ok_intD (gv := fun i j => .bl (decide (j ≤ i))) (fun _ _ _ _ => .bl _) fun i j H Q _ q => ⟨i, j, rfl, rfl, q⟩
theorem qe_gt (ha : QE cl W X a f) (hb : QE cl W X b g) : QE cl W X (.Compare a [.Gt] [b] pos) (e2 gtD f g) := qe_cmp op_gt ok_gtD ha hb (nomark _)
theorem qt_lt (ha : QE cl W X a f) (hb : QE cl W X b g) : QT cl W X (.Compare a [.Lt] [b] pos) (eTB (e2 ltD f g)) := qt_cmp op_lt ok_ltD ha hb (nomark _)
theorem qt_gt (ha : QE cl W X a f) (hb : QE cl W X b g) : QT cl W X (.Compare a [.Gt] [b] pos) (eTB (e2 gtD f g)) := qt_cmp op_gt ok_gtD ha hb (nomark _)
theorem qt_ge (ha : QE cl W X a f) (hb : QE cl W X b g) : QT cl W X (.Compare a [.GtE] [b] pos) (eTB (e2 geD f g)) := qt_cmp op_ge ok_geD ha hb (nomark _)
end
mutual
noncomputable def D.py : D → PyData
  | .non => .none
  | .bl b => .bool b
  | .int i => .int i
  | .str x => .str x
  | .tup xs => .tuple (pys xs)
  | .tpi xs => .tuple (pys xs)
  | .lst xs => .list (pys xs)
  | .fls xs => .list (pys xs)
  | .dct _ => .dict []
  | .ref _ => .dict []
noncomputable def pys : List D → List PyData
  | [] => []
  | x :: xs => x.py :: pys xs
end
/-- data at the top: a list of the store is read -/
noncomputable def pyOf (S : Sto) (d : D) : PyData := match d with
  | .ref k => match S[k]? with
    | some (.lst xs) => .list (pys xs)
    | _ => .dict []
  | d => d.py
section
variable {K : PySem.W.Frag} {cl : Str → Addr} {am : AM} {H : Hp} {S : Sto}
mutual
theorem VR.dp : ∀ {d : D} {v : V}, VR K am H d v → d.py.canLay0 = true → Dp K H v d.py
  | _, _, .non, _ => .non
  | _, _, .bl b, _ => .bl b
  | _, _, .int i, _ => .int i
  | _, _, .str x, _ => .str x
  | _, _, .tup h hs, q => .tup h.seq (VRs.dp hs (by simpa [D.py, PyData.canLay0] using q))
  | _, _, .tpi h hs, q => .tup (.inl h.1) (VRs.dp hs (by simpa [D.py, PyData.canLay0] using q))
  | _, _, .lst h n hs, q => .lst (.inl (.inl h)) (VRs.dp hs (by simpa [D.py, PyData.canLay0] using q))
  | _, _, .fls h hs, q => .lst h.seq (VRs.dp hs (by simpa [D.py, PyData.canLay0] using q))
  | _, _, .dct _ _ _, q => absurd q (by simp [D.py, PyData.canLay0])
  | _, _, .ref _, q => absurd q (by simp [D.py, PyData.canLay0])
theorem VRs.dp : ∀ {ds : List D} {vs : List V}, VRs K am H ds vs → PyData.canLayAll0 (pys ds) = true → DpAll K H vs (pys ds)
  | _, _, .nil, _ => .nil
  | _, _, .cons h t, q => by
    rename_i d v ds vs
    have q' : d.py.canLay0 = true ∧ PyData.canLayAll0 (pys ds) = true := by simpa [pys, PyData.canLayAll0] using q
    exact .cons (VR.dp h q'.1) (VRs.dp t q'.2)
end
theorem dpOf (r : RelS K cl am S H) {d : D} {v : V} (h : VR K am H d v) (q : (pyOf S d).canLay0 = true) : Dp K H v (pyOf S d) := by
  cases d with
  | ref k =>
    unfold pyOf at q ⊢
    simp only at q ⊢
    cases e : S[k]? with
    | none => rw [e] at q; exact absurd q (by simp [PyData.canLay0])
    | some o =>
      rw [e] at q
      cases o with
      | lst xs =>
        cases h with
        | ref h1 =>
          obtain ⟨vs, h2, h3⟩ := r.ob k _ _ e h1
          exact .lst (.inl (.inl h2)) (h3.dp (by simpa [PyData.canLay0] using q))
      | dct _ => exact absurd q (by simp [PyData.canLay0])
      | ins _ _ => exact absurd q (by simp [PyData.canLay0])
      | fdc _ _ _ => exact absurd q (by simp [PyData.canLay0])
      | tdc _ => exact absurd q (by simp [PyData.canLay0])
  | _ => exact h.dp q
end
noncomputable def eqB (S : Sto) (d e : D) : Bool := PyData.eqv (pyOf S d) (pyOf S e)
noncomputable def shp (S : Sto) (d : D) : Bool := SeqAt.shaped (pyOf S d)
noncomputable def eqD (neg : Bool) (d e : D) (S : Sto) : Res D := if shp S d = true ∧ shp S e = true then .ok (.bl (if neg = true then !eqB S d e else eqB S d e)) S else .bad
section
variable {cl : Str → Addr} {W : WX} {X : Cx} {a b c : Expr} {f g h : Ev D} {pos : Pos}
theorem ok_eq : Ok2 X.K cl (rEqD X.K) (eqD false) := fun W σ am S H d e v u Q rs h1 h2 p => by
  unfold eqD at p
  by_cases hc : shp S d = true ∧ shp S e = true
  · rw [if_pos hc] at p
    exact ⟨_, _, dpOf rs h1 (SeqAt.canLay_of_shaped hc.1), dpOf rs h2 (SeqAt.canLay_of_shaped hc.2), hc.1, hc.2, p am _ H .refl rs (.bl _)⟩
  · rw [if_neg hc] at p
    exact p.elim
theorem ok_ne : Ok2 X.K cl (rNeD X.K) (eqD true) := fun W σ am S H d e v u Q rs h1 h2 p => by
  unfold eqD at p
  by_cases hc : shp S d = true ∧ shp S e = true
  · rw [if_pos hc] at p
    exact ⟨_, _, dpOf rs h1 (SeqAt.canLay_of_shaped hc.1), dpOf rs h2 (SeqAt.canLay_of_shaped hc.2), hc.1, hc.2, p am _ H .refl rs (.bl _)⟩
  · rw [if_neg hc] at p
    exact p.elim
theorem qe_eq {k : Nat} (hr : Room k X.A) (ha : QE cl W X a f) (hb : QE cl W X b g) : QE cl W X (.Compare a [.Eq] [b] pos) (e2 (eqD false) f g) := qe_cmp (op_eqD hr.units) ok_eq ha hb (nomark _)
theorem qt_eq {k : Nat} (hr : Room k X.A) (ha : QE cl W X a f) (hb : QE cl W X b g) : QT cl W X (.Compare a [.Eq] [b] pos) (eTB (e2 (eqD false) f g)) := qt_cmp (op_eqD hr.units) ok_eq ha hb (nomark _)
theorem qt_ne {k : Nat} (hr : Room k X.A) (ha : QE cl W X a f) (hb : QE cl W X b g) : QT cl W X (.Compare a [.NotEq] [b] pos) (eTB (e2 (eqD true) f g)) := qt_cmp (op_neD hr.units) ok_ne ha hb (nomark _)
/-- is None -/
noncomputable def D.isN : D → Bool
  | .non => true
  | _ => false
noncomputable def isND (neg : Bool) (d : D) (S : Sto) : Res D := .ok (.bl (if neg = true then !d.isN else d.isN)) S
end
noncomputable def tAndD (f g : Ev Bool) : Ev Bool := fun e S => (f e S).bind fun b S => if b = true then g e S else .ok false S
noncomputable def tOrD (f g : Ev Bool) : Ev Bool := fun e S => (f e S).bind fun b S => if b = true then .ok true S else g e S
noncomputable def tNotD (f : Ev Bool) : Ev Bool := fun e S => (f e S).bind fun b S => .ok (!b) S
noncomputable def eAndD (f g : Ev D) : Ev D := fun e S => (f e S).bind fun d S => (toB d S).bind fun b S => if b = true then g e S else .ok (.bl false) S
noncomputable def eOrD (f g : Ev D) : Ev D := fun e S => (f e S).bind fun d S => (toB d S).bind fun b S => if b = true then .ok (.bl true) S else g e S
noncomputable def eNotD (f : Ev D) : Ev D := fun e S => (f e S).bind fun d S => (toB d S).bind fun b S => .ok (.bl (!b)) S
noncomputable def eIf (t : Ev Bool) (f g : Ev D) : Ev D := fun e S => (t e S).bind fun b S => if b = true then f e S else g e S
section
variable {cl : Str → Addr} {W : WX} {X : Cx} {a b c : Expr} {rest : List Expr} {f g : Ev D} {s t : Ev Bool} {pos : Pos}
theorem qw_and1 (ha : QT cl W X a s) : QW cl W X (.BoolOp .And [a] pos) s := pw_and1 ha
theorem qw_or1 (ha : QT cl W X a s) : QW cl W X (.BoolOp .Or [a] pos) s := pw_or1 ha
theorem qw_and (ha : QT cl W X a s) (hb : QW cl W X (.BoolOp .And (b :: rest) pos) t) : QW cl W X (.BoolOp .And (a :: b :: rest) pos) (tAndD s t) := (pw_and ha hb).imp fun σ H Q ⟨am, e, S, rs, re, p⟩ =>
  ⟨am, e, S, rs, re, (Post.step p).imp fun k H1 ⟨am1, S1, k', _, g1, rs1, rk, p1⟩ => by
    have rk : k' = k := rk
    subst rk
    cases k' with
    | true => exact ⟨am1, e, S1, rs1, re.mono g1, p1⟩
    | false => exact p1 am1 _ H1 .refl rs1 rfl⟩
theorem qw_or (ha : QT cl W X a s) (hb : QW cl W X (.BoolOp .Or (b :: rest) pos) t) : QW cl W X (.BoolOp .Or (a :: b :: rest) pos) (tOrD s t) := (pw_or ha hb).imp fun σ H Q ⟨am, e, S, rs, re, p⟩ =>
  ⟨am, e, S, rs, re, (Post.step p).imp fun k H1 ⟨am1, S1, k', _, g1, rs1, rk, p1⟩ => by
    have rk : k' = k := rk
    subst rk
    cases k' with
    | false => exact ⟨am1, e, S1, rs1, re.mono g1, p1⟩
    | true => exact p1 am1 _ H1 .refl rs1 rfl⟩
theorem qe_one {op} (ha : QE cl W X a f) : QE cl W X (.BoolOp op [a] pos) f := pe_one ha
theorem step_b {σ : L2.St} {α : Type} {R : AM → Hp → D → V → Prop} {am : AM} {H : Hp} {S : Sto} {k : Bool → Sto → Res D} {d : D} {x : V} {Q : VK} (rv : VR X.K am H d x) (p : Post X.K cl W σ R am H ((toB d S).bind k) Q) : ∃ b, d = .bl b ∧ x = .bl b ∧ Post X.K cl W σ R am H (k b S) Q := by
  cases rv with
  | bl b => exact ⟨b, rfl, rfl, p⟩
  | _ => exact p.elim
theorem qe_and (ha : QE cl W X a f) (hb : QE cl W X (.BoolOp .And (b :: rest) pos) g) : QE cl W X (.BoolOp .And (a :: b :: rest) pos) (eAndD f g) := (pe_and ha hb).imp fun σ H Q ⟨am, e, S, rs, re, p⟩ =>
  ⟨am, e, S, rs, re, (Post.step p).imp fun x H1 ⟨am1, S1, d, _, g1, rs1, rv, p1⟩ => by
    obtain ⟨k, _, ex, p2⟩ := step_b (α := D) rv p1
    refine ⟨k, ex, ?_⟩
    cases k with
    | true => exact ⟨am1, e, S1, rs1, re.mono g1, p2⟩
    | false => exact p2 am1 _ H1 .refl rs1 (.bl _)⟩
/-- a value's truth -/
noncomputable def truD (d : D) (S : Sto) : Res Bool := match d with
  | .non => .ok false S
  | .bl b => .ok b S
  | .int i => .ok (i != 0) S
  | .str x => if x.length ≤ sizeLine then .ok ((x.length : Int) != 0) S else .bad
  | .tup xs => .ok (!xs.isEmpty) S
  | d => match lsOf S d with
    | some xs => .ok (!xs.isEmpty) S
    | none => .bad
noncomputable def eTr (f : Ev D) : Ev Bool := fun e S => (f e S).bind truD
theorem VRs.isEmpty {K : PySem.W.Frag} {am : AM} {H : Hp} {ds : List D} {vs : List V} (h : VRs K am H ds vs) : vs.isEmpty = ds.isEmpty := by
  cases h <;> rfl
theorem tru_ok' {am : AM} {S : Sto} {H : Hp} {d : D} {x : V} {σ : L2.St} {Q : Bool → Hp → Prop} (rs : RelS X.K cl am S H) (rv : VR X.K am H d x) (p : Post X.K cl W σ RB am H (truD d S) Q) : ∃ k, TruV X.K x H k ∧ Q k H := by
  have ls : Post X.K cl W σ RB am H (match lsOf S d with | some xs => .ok (!xs.isEmpty) S | none => .bad) Q → ∃ k, TruV X.K x H k ∧ Q k H := fun p => by
    cases e : lsOf S d with
    | none => rw [e] at p; exact p.elim
    | some xs =>
      rw [e] at p
      obtain ⟨a, vs, ev, r1, hs⟩ := lsOf_ok rs rv e
      subst ev
      exact ⟨!xs.isEmpty, .inl ⟨vs, r1, by rw [hs.isEmpty]⟩, p am _ H .refl rs rfl⟩
  cases rv with
  | non => exact ⟨false, rfl, p am _ H .refl rs rfl⟩
  | bl b => exact ⟨b, rfl, p am _ H .refl rs rfl⟩
  | int i => exact ⟨(i != 0), rfl, p am _ H .refl rs rfl⟩
  | str y =>
    simp only [truD] at p
    by_cases hz : y.length ≤ sizeLine
    · rw [if_pos hz] at p
      exact ⟨((y.length : Int) != 0), ⟨hz, rfl⟩, p am _ H .refl rs rfl⟩
    · rw [if_neg hz] at p
      exact p.elim
  | tup h hs => exact ⟨_, .inr (.inl ⟨_, h.seq, rfl⟩), by rw [hs.isEmpty]; exact p am _ H .refl rs rfl⟩
  | lst _ _ _ => exact ls p
  | fls _ _ => exact ls p
  | ref _ => exact ls p
  | dct _ _ _ => exact p.elim
  | tpi _ _ => exact p.elim
theorem qt_val (ha : QE cl W X a f) (he : ∀ whole, isTrue a X.env whole = (do let v ← whole; standAt a.pos; holding [v] (truthy v)) := by intro _; rfl) : QT cl W X a (eTr f) := (pt_truth ha he).imp fun σ H Q ⟨am, e, S, rs, re, p⟩ =>
  ⟨am, e, S, rs, re, (Post.step p).imp fun x H1 ⟨am1, S1, d, _, g1, rs1, rv, p1⟩ => tru_ok' rs1 rv p1⟩
end
noncomputable def eArgs : List (Ev D) → Ev (List D)
  | [] => fun _ S => .ok [] S
  | f :: fs => fun e S => (f e S).bind fun x S => (eArgs fs e S).bind fun xs S => .ok (x :: xs) S
theorem eArgs_len : ∀ {fs : List (Ev D)} {e : En} {S S' : Sto} {xs : List D}, eArgs fs e S = .ok xs S' → xs.length = fs.length
  | [], _, _, _, _, h => by cases h; rfl
  | f :: fs, e, S, S', xs, h => by
    unfold eArgs at h
    cases e1 : f e S with
    | ok x S1 =>
      rw [e1, Res.bind_ok] at h
      cases e2 : eArgs fs e S1 with
      | ok ys S2 =>
        rw [e2, Res.bind_ok] at h
        cases h
        rw [List.length_cons, List.length_cons, eArgs_len e2]
      | exc c S2 => rw [e2] at h; cases h
      | bad => rw [e2] at h; cases h
    | exc c S1 => rw [e1] at h; cases h
    | bad => rw [e1] at h; cases h
noncomputable def eTup (fs : List (Ev D)) : Ev D := fun e S => (eArgs fs e S).bind fun xs S => .ok (.tup xs) S
noncomputable def eCall (op : List D → Sto → Res D) (fs : List (Ev D)) : Ev D := fun e S => (eArgs fs e S).bind op
noncomputable def OkN (K : PySem.W.Frag) (cl : Str → Addr) (r : List V → Hp → VK → Prop) (op : List D → Sto → Res D) : Prop :=
  ∀ (W : WX) (σ : L2.St) (am : AM) (S : Sto) (H : Hp) (ds : List D) (vs : List V) (Q : VK), RelS K cl am S H → VRs K am H ds vs → Post K cl W σ (VR K) am H (op ds S) Q → r vs H Q
theorem OkN.or {K : PySem.W.Frag} {cl : Str → Addr} {r r' : List V → Hp → VK → Prop} {op op' : List D → Sto → Res D} (h : OkN K cl r op) (h' : OkN K cl r' op') (c : List D → Sto → Bool) : OkN K cl (fun vs H Q => r vs H Q ∨ r' vs H Q) (fun ds S => if c ds S = true then op ds S else op' ds S) :=
  fun W σ am S H ds vs Q rs rv p => by
    by_cases hc : c ds S = true
    · simp only [hc, if_true] at p
      exact .inl (h W σ am S H ds vs Q rs rv p)
    · simp only [hc] at p
      exact .inr (h' W σ am S H ds vs Q rs rv p)
section
variable {cl : Str → Addr} {W : WX} {X : Cx} {a b c : Expr} {es : List Expr} {f g : Ev D} {fs : List (Ev D)} {pos : Pos}
theorem qa_nil : QA cl W X [] (eArgs []) := pa_nil.imp fun σ H Q ⟨am, e, S, rs, re, p⟩ => p am [] H .refl rs .nil
theorem qa_cons (ha : QE cl W X a f) (hr : QA cl W X es (eArgs fs)) (hs : starEach (a :: es) X.env = (false, eval a X.env) :: starEach es X.env := by rfl) : QA cl W X (a :: es) (eArgs (f :: fs)) := (pa_cons ha hr hs).imp fun σ H Q ⟨am, e, S, rs, re, p⟩ =>
  ⟨am, e, S, rs, re, (Post.step p).imp fun x H1 ⟨am1, S1, d, _, g1, rs1, rv, p1⟩ =>
    ⟨am1, e, S1, rs1, re.mono g1, (Post.step p1).imp fun xs H2 ⟨am2, S2, ds, _, g2, rs2, rvs, p2⟩ => p2 am2 _ H2 .refl rs2 (.cons (rv.mono g2) rvs)⟩⟩
theorem qe_tup {x1} (h : QA cl W X es (eArgs fs)) (hn : fs.length ≤ 1000 := by decide) : QE cl W X (.Tuple es x1 pos) (eTup fs) := (pe_tupF h).imp fun σ H Q ⟨am, e, S, rs, re, p⟩ =>
  ⟨am, e, S, rs, re, (Post.step p).imp fun xs H1 ⟨am1, S1, ds, ee, g1, rs1, rvs, p1⟩ =>
    ⟨by rw [← rvs.length, eArgs_len ee]; exact Nat.le_trans hn (by decide), fun q ob hq hd => p1 am1 _ _ (Grow.upd hq) (rs1.upd hq) (VR.tupNew rs1 rvs hq hd)⟩⟩
theorem imp_call {r : List V → Hp → VK → Prop} {op : List D → Sto → Res D} (ok : OkN X.K cl r op) : ∀ σ H Q, TD X.K cl W (VR X.K) (eCall op fs) σ H Q → tCB r (TD X.K cl W (VRs X.K) (eArgs fs)) σ H Q := fun σ H Q ⟨am, e, S, rs, re, p⟩ =>
  ⟨am, e, S, rs, re, (Post.step p).imp fun xs H1 ⟨am1, S1, ds, ee, g1, rs1, rvs, p1⟩ => ok W σ am1 S1 H1 ds xs Q rs1 rvs p1⟩
variable {x : Str} {p : Pos}
theorem qe_callB {id : String} {r : List V → Hp → VK → Prop} {op : List D → Sto → Res D} (hc : CallR X (.builtin id) r) (ok : OkN X.K cl r op) (hg : Gl X x) (hm : X.mg x = none) (hv : bootBuiltins x = some (.builtin id)) (ha : QA cl W X (a :: es) (eArgs fs)) (hn : x ≠ "__name__" := by decide) (hdb : (x == ("__debug__" : Str)) = false := by decide)
    (he : starEach (a :: es) X.env = (false, eval a X.env) :: starEach es X.env := by rfl) (hpl : (backTo pos (starEach es X.env)).any (·.1) = false := by rfl) : QE cl W X (.Call (.Name x p) (a :: es) [] pos) (eCall op fs) :=
  (pe_callB hc hg hm hv ha hn hdb he hpl).imp (imp_call ok)
theorem qe_callT {T : String} {r : List V → Hp → VK → Prop} {op : List D → Sto → Res D} (hc : CallR X (.type T) r) (ok : OkN X.K cl r op) (hg : Gl X x) (hm : X.mg x = none) (hv : bootBuiltins x = some (.type T)) (ha : QA cl W X (a :: es) (eArgs fs)) (hn : x ≠ "__name__" := by decide) (hdb : (x == ("__debug__" : Str)) = false := by decide)
    (he : starEach (a :: es) X.env = (false, eval a X.env) :: starEach es X.env := by rfl) (hpl : (backTo pos (starEach es X.env)).any (·.1) = false := by rfl) : QE cl W X (.Call (.Name x p) (a :: es) [] pos) (eCall op fs) :=
  (pe_callTy hc hg hm hv ha hn hdb he hpl).imp (imp_call ok)
end
/-- the sequence that a value is -/
noncomputable def sqOf (S : Sto) : D → Option (List D)
  | .tup xs => some xs
  | d => lsOf S d
@[simp] theorem sqOf_tup {S : Sto} {xs : List D} : sqOf S (.tup xs) = some xs := id rfl
@[simp] theorem sqOf_lst {S : Sto} {xs : List D} : sqOf S (.lst xs) = some xs := id rfl
@[simp] theorem sqOf_fls {S : Sto} {xs : List D} : sqOf S (.fls xs) = some xs := id rfl
@[simp] theorem sqOf_ref {S : Sto} {k : Nat} {xs : List D} (h : S[k]? = some (.lst xs)) : sqOf S (.ref k) = some xs := lsOf_ref h
theorem sqOf_ok {K : PySem.W.Frag} {cl : Str → Addr} {am : AM} {H : Hp} {S : Sto} {d : D} {v : V} (r : RelS K cl am S H) (h : VR K am H d v) {xs : List D} (e : sqOf S d = some xs) :
    ∃ a vs, v = .ref a ∧ (SqL K H a vs ∨ SqT K H a vs) ∧ VRs K am H xs vs := by
  cases h with
  | tup h hs =>
    cases e
    exact ⟨_, _, rfl, .inr h.seq, hs⟩
  | lst h1 h2 h3 =>
    obtain ⟨a, vs, ev, r1, hs⟩ := lsOf_ok r (.lst h1 h2 h3) e
    exact ⟨a, vs, ev, .inl r1, hs⟩
  | fls h1 h3 =>
    obtain ⟨a, vs, ev, r1, hs⟩ := lsOf_ok r (.fls h1 h3) e
    exact ⟨a, vs, ev, .inl r1, hs⟩
  | ref h1 =>
    obtain ⟨a, vs, ev, r1, hs⟩ := lsOf_ok r (.ref h1) e
    exact ⟨a, vs, ev, .inl r1, hs⟩
  | _ => cases e
end Pu
set_option Elab.async false
set_option linter.all false
set_option maxRecDepth 100000
namespace Pu
open PySem PySem.Spec PyProof.Rows L2
noncomputable def PostN (K : PySem.W.Frag) (cl : Str → Addr) (W : WX) (σ : L2.St) (am : AM) (H : Hp) (r : Res DO) (Q : VK) : Prop := match r with
  | .ok o S => ∀ (am' : AM) (a : Addr) (H' : Hp), Grow am am' H H' → RelS K cl am' S H' → H a = none → a ∈ am'.no → a ∉ am'.ad → OR K cl am' H' a o → Q (.ref a) H'
  | .exc c S => ∀ am' H', Grow am am' H H' → RelS K cl am' S H' → W (.ref (cl c)) none σ H'
  | .bad => False
noncomputable def TDN (K : PySem.W.Frag) (cl : Str → Addr) (W : WX) (f : Ev DO) : TE := fun σ H Q => ∃ am e S, RelS K cl am S H ∧ RelE K am H e σ ∧ PostN K cl W σ am H (f e S) Q
noncomputable abbrev QN (cl : Str → Addr) (W : WX) (X : Cx) (e : Expr) (f : Ev DO) : Prop := PE X e (TDN X.K cl W f)
noncomputable def anoD (o : DO) (S : Sto) : Res D := match o with
  | .lst xs => .ok (.lst xs) S
  | .dct xs => .ok (.dct xs) S
  | _ => .bad
@[simp] theorem anoD_lst {xs : List D} {S : Sto} : anoD (.lst xs) S = .ok (.lst xs) S := id rfl
@[simp] theorem anoD_dct {xs : List (Key × D)} {S : Sto} : anoD (.dct xs) S = .ok (.dct xs) S := id rfl
/-- .. kept by its data -/
noncomputable def eAno (f : Ev DO) : Ev D := fun e S => (f e S).bind anoD
/-- .. kept in the store -/
noncomputable def eNew (f : Ev DO) : Ev D := fun e S => (f e S).bind fun o S => .ok (.ref S.length) (S ++ [o])
section
variable {K : PySem.W.Frag} {cl : Str → Addr} {W : WX} {σ : L2.St} {am am1 : AM} {H H1 : Hp} {S : Sto} {Q : VK} {f : Ev DO}
theorem PostN.step {α β : Type} {R : AM → Hp → α → β → Prop} {r : Res α} {k : α → Sto → Res DO} (p : PostN K cl W σ am H (r.bind k) Q) :
    Post K cl W σ R am H r (fun b H1 => ∃ am1 S1 a, r = .ok a S1 ∧ Grow am am1 H H1 ∧ RelS K cl am1 S1 H1 ∧ R am1 H1 a b ∧ PostN K cl W σ am H (k a S1) Q) := by
  cases r with
  | ok a S => exact fun am1 b H1 g rs rb => ⟨am1, S, a, rfl, g, rs, rb, p⟩
  | exc c S => exact p
  | bad => exact p
theorem Grow.unborn (g : Grow am am1 H H1) (rs : RelS K cl am1 S H1) {p : Addr} (h : H1 p = none) : H p = none := by
  cases q : H p with
  | none => rfl
  | some o =>
    by_cases hp : p ∈ am.ad
    · obtain ⟨r, e⟩ := g.pre
      have : p ∈ am1.ad := by rw [e]; exact List.mem_append_left _ hp
      exact absurd h (by obtain ⟨u, e2⟩ := rs.there p (am1.sub p this); rw [e2]; simp)
    · rw [g.keep p o q hp] at h
      cases h
/-- the object is laid at last -/
theorem PostN.laid {o : DO} {ov : HO} {q : Addr} (p : PostN K cl W σ am H (.ok o S) Q) (g : Grow am am1 H H1) (rs : RelS K cl am1 S H1) (hq : H1 q = none) (ho : OR K cl (am1.resv q) (upd H1 q ov) q o) : Q (.ref q) (upd H1 q ov) :=
  p (am1.resv q) q _ (g.trans (Grow.resv hq)) (rs.resv hq) (g.unborn rs hq) List.mem_cons_self (fun z => (rs.new hq) (am1.sub q z)) ho
theorem imp_ano : ∀ σ H Q, TD K cl W (VR K) (eAno f) σ H Q → TDN K cl W f σ H Q := fun σ H Q ⟨am, e, S, rs, re, p⟩ => by
  refine ⟨am, e, S, rs, re, ?_⟩
  unfold eAno at p
  cases q : f e S with
  | ok o S1 =>
    rw [q] at p
    intro am' a H' g rs' ha hn hd ho
    cases o with
    | lst xs =>
      obtain ⟨vs, h1, h2⟩ := ho
      exact p (am'.free a hd) (.ref a) H' (g.free hd (rs.new ha)) (rs'.free hd) (.lst h1 (AM.free_not hd) (h2.ext (Ext.free hd)))
    | dct xs =>
      obtain ⟨vs, h1, h2⟩ := ho
      exact p (am'.free a hd) (.ref a) H' (g.free hd (rs.new ha)) (rs'.free hd) (.dct h1 (AM.free_not hd) (h2.ext (Ext.free hd)))
    | ins c fs => exact p.elim
    | fdc _ _ _ => exact p.elim
    | tdc _ => exact p.elim
  | exc c S1 => rw [q] at p; exact p
  | bad => rw [q] at p; exact p.elim
theorem imp_new : ∀ σ H Q, TD K cl W (VR K) (eNew f) σ H Q → TDN K cl W f σ H Q := fun σ H Q ⟨am, e, S, rs, re, p⟩ => by
  refine ⟨am, e, S, rs, re, ?_⟩
  unfold eNew at p
  cases q : f e S with
  | ok o S1 =>
    rw [q] at p
    intro am' a H' g rs' ha hn hd ho
    refine p (am'.push a hn) (.ref a) H' (g.push hn ha) (rs'.push hn hd ho) (.ref ?_)
    show (am'.ad ++ [a])[S1.length]? = some a
    rw [← rs'.len, List.getElem?_append_right (Nat.le_refl _), Nat.sub_self]
    rfl
  | exc c S1 => rw [q] at p; exact p
  | bad => rw [q] at p; exact p.elim
end
section
variable {cl : Str → Addr} {W : WX} {X : Cx} {a b c : Expr} {es : List Expr} {f g h : Ev D} {fs : List (Ev D)} {fn : Ev DO} {pos : Pos}
theorem qe_ano (h : QN cl W X a fn) : QE cl W X a (eAno fn) := h.imp imp_ano
theorem qe_new (h : QN cl W X a fn) : QE cl W X a (eNew fn) := h.imp imp_new
noncomputable def nLst (fs : List (Ev D)) : Ev DO := fun e S => (eArgs fs e S).bind fun xs S => .ok (.lst xs) S
theorem qn_lst (h : QA cl W X es (eArgs fs)) (hn : fs.length ≤ 1000 := by decide) : QN cl W X (.List es pos) (nLst fs) := (pe_lst h).imp fun σ H Q ⟨am, e, S, rs, re, p⟩ =>
  ⟨am, e, S, rs, re, (PostN.step p).imp fun xs H1 ⟨am1, S1, ds, ee, g1, rs1, rvs, p1⟩ =>
    ⟨by rw [← rvs.length, eArgs_len ee]; exact Nat.le_trans hn (by decide), fun q hq => p1.laid g1 rs1 hq ⟨xs, upd_same, rvs.mono (Grow.resv hq)⟩⟩⟩
noncomputable def nDct0 : Ev DO := fun _ S => .ok (.dct []) S
theorem qn_dct0 : QN cl W X (.Dict [] [] pos) nDct0 := pe_dnewK.imp fun σ H Q ⟨am, e, S, rs, re, p⟩ => fun q hq => PostN.laid p .refl rs hq ⟨[], upd_same, .nil⟩
end
noncomputable def sSet (i : Nat) (f : Ev D) : Stm := fun e S => (f e S).stm e fun d S => .next (e.set i (some d)) S
noncomputable def sRet (f : Ev D) : Stm := fun e S => (f e S).stm e fun d S => .ret d S
noncomputable def sExpr (f : Ev D) : Stm := fun e S => (f e S).stm e fun _ S => .next e S
noncomputable def sNext : Stm := fun e S => .next e S
noncomputable def sBrk : Stm := fun e S => .brk e S
noncomputable def sSeq (a b : Stm) : Stm := fun e S => (a e S).seq b
noncomputable def sIf (t : Ev Bool) (a b : Stm) : Stm := fun e S => (t e S).stm e fun k S => if k = true then a e S else b e S
/-- slots that nobody reads any more -/
noncomputable def sFgt (vs : List Nat) (a : Stm) : Stm := fun e S => match a e S with
  | .next e S => .next (wipeE e vs) S
  | r => r
section
variable {cl : Str → Addr} {W : WX} {X : Cx} {st : Stmt} {rest sa sb : List Stmt} {a b c : Expr} {f g : Ev D} {t : Ev Bool} {u v : Stm} {pos : Pos}
theorem PostS.imp {K : PySem.W.Frag} {am : AM} {H : Hp} {r : SRes} {E E' : Ends} (p : PostS K cl W am H r E) (h1 : ∀ σ H', E.nx σ H' → E'.nx σ H') (h2 : ∀ v H', E.rt v H' → E'.rt v H') (h3 : ∀ σ H', E.bk σ H' → E'.bk σ H') (h4 : ∀ σ H', E.ct σ H' → E'.ct σ H') : PostS K cl W am H r E' := by
  cases r with
  | next e S => exact fun am' σ H' g rs re => h1 _ _ (p am' σ H' g rs re)
  | brk e S => exact fun am' σ H' g rs re => h3 _ _ (p am' σ H' g rs re)
  | cnt e S => exact fun am' σ H' g rs re => h4 _ _ (p am' σ H' g rs re)
  | ret d S => exact fun am' v H' g rs rv => h2 _ _ (p am' v H' g rs rv)
  | exc c e S => exact p
  | bad => exact p
theorem qs_set {i : Nat} {x : Str} {pos' : Pos} (hN : X.N.Nodup) (hi : X.N[i]? = some x) (hx : Loc X.env.scope x) (he : QE cl W X a f) (hs : swapsWith a (some (.Name x pos')) pos.line X.env = pure false := by rfl) (hf : X.fn x = true ∨ X.env.scope.names.lookup x = some .local := by first | exact .inl rfl | exact .inr rfl | assumption) :
    QS cl W X (.Assign [.Name x pos'] a pos) (sSet i f) := (ps_set hN hi hx he hs hf).imp fun E σ H ⟨am, e, S, rs, re, p⟩ =>
  ⟨am, e, S, rs, re, (PostS.step re p).imp fun x H1 ⟨am1, S1, d, _, g1, rs1, rv, p1⟩ => p1 am1 _ H1 .refl rs1 ((re.mono g1).set i rv)⟩
theorem qs_ret (he : QE cl W X a f) : QS cl W X (.Return (some a) pos) (sRet f) := (ps_ret he).imp fun E σ H ⟨am, e, S, rs, re, p⟩ =>
  ⟨am, e, S, rs, re, (PostS.step re p).imp fun x H1 ⟨am1, S1, d, _, g1, rs1, rv, p1⟩ => p1 am1 _ H1 .refl rs1 rv⟩
theorem qs_expr (he : QE cl W X a f) (hs : swapsWith a none pos.line X.env = pure false := by rfl) : QS cl W X (.Expr a pos) (sExpr f) := (ps_expr he hs).imp fun E σ H ⟨am, e, S, rs, re, p⟩ =>
  ⟨am, e, S, rs, re, (PostS.step re p).imp fun x H1 ⟨am1, S1, d, _, g1, rs1, rv, p1⟩ => p1 am1 _ H1 .refl rs1 (re.mono g1)⟩
theorem qb_nil : QB cl W X [] sNext := pss_nil.imp fun E σ H ⟨am, e, S, rs, re, p⟩ => p am σ H .refl rs re
theorem qb_one (h : QS cl W X st u) : QB cl W X [st] u := pss_one h
theorem qb_cons (h1 : QS cl W X st u) (h2 : QB cl W X rest v) : QB cl W X (st :: rest) (sSeq u v) := (pss_cons h1 h2).imp fun E σ H ⟨am, e, S, rs, re, p⟩ => by
  refine ⟨am, e, S, rs, re, ?_⟩
  have p : PostS X.K cl W am H ((u e S).seq v) E := p
  cases q : u e S with
  | next e1 S1 =>
    rw [q] at p
    exact fun am1 σ1 H1 g1 rs1 re1 => ⟨am1, e1, S1, rs1, re1, PostS.grow g1 p⟩
  | brk e1 S1 => rw [q] at p; exact p
  | cnt e1 S1 => rw [q] at p; exact p
  | ret d S1 => rw [q] at p; exact p
  | exc c e1 S1 => rw [q] at p; exact p
  | bad => rw [q] at p; exact p
theorem qs_if (hc : QT cl W X c t) (ha : QB cl W X sa u) (hb : QB cl W X sb v) : QS cl W X (.If c sa sb pos) (sIf t u v) := (ps_if hc ha hb).imp fun E σ H ⟨am, e, S, rs, re, p⟩ =>
  ⟨am, e, S, rs, re, (PostS.step re p).imp fun k H1 ⟨am1, S1, k', _, g1, rs1, rk, p1⟩ => by
    have rk : k' = k := rk
    subst rk
    cases k' with
    | true => exact ⟨am1, e, S1, rs1, re.mono g1, p1⟩
    | false => exact ⟨am1, e, S1, rs1, re.mono g1, p1⟩⟩
theorem PostS.fgt {K : PySem.W.Frag} {am : AM} {H : Hp} {E : Ends} {vs : List Nat} {e : En} {S : Sto} (p : PostS K cl W am H (sFgt vs u e S) E) : PostS K cl W am H (u e S) E := by
  unfold sFgt at p
  cases q : u e S with
  | next e1 S1 => rw [q] at p; exact fun am' σ H' g rs re => p am' σ H' g rs (re.forget vs)
  | brk e1 S1 => rw [q] at p; exact p
  | cnt e1 S1 => rw [q] at p; exact p
  | ret d S1 => rw [q] at p; exact p
  | exc c e1 S1 => rw [q] at p; exact p
  | bad => rw [q] at p; exact p
theorem qs_fgt (vs : List Nat) (h : QS cl W X st u) : QS cl W X st (sFgt vs u) := h.imp fun E σ H ⟨am, e, S, rs, re, p⟩ => ⟨am, e, S, rs, re, PostS.fgt p⟩
end
inductive Tg where
  | nm (i : Nat) | tp (ts : List Tg)
mutual
noncomputable def bindT : Tg → D → En → Option En
  | .nm i, d, e => some (e.set i (some d))
  | .tp ts, .tup ds, e => bindTs ts ds e
  | .tp ts, .tpi ds, e => bindTs ts ds e
  | .tp _, _, _ => none
noncomputable def bindTs : List Tg → List D → En → Option En
  | [], [], e => some e
  | t :: ts, d :: ds, e => (bindT t d e).bind fun e => bindTs ts ds e
  | _, _, _ => none
end
mutual
noncomputable def Tg.sl : Tg → List Nat
  | .nm i => [i]
  | .tp ts => slTs ts
noncomputable def slTs : List Tg → List Nat
  | [] => []
  | t :: ts => t.sl ++ slTs ts
end
/-- only the slots at vs are others -/
structure But (vs : List Nat) (σ σ' : L2.St) : Prop where
  len : σ'.length = σ.length
  get : ∀ j, j ∉ vs → σ'[j]? = σ[j]?
theorem But.refl {vs : List Nat} {σ : L2.St} : But vs σ σ := ⟨rfl, fun _ _ => rfl⟩
theorem But.trans {vs us : List Nat} {σ σ1 σ2 : L2.St} (a : But vs σ σ1) (b : But us σ1 σ2) : But (vs ++ us) σ σ2 := ⟨b.len.trans a.len, fun j h => (b.get j fun z => h (List.mem_append_right _ z)).trans (a.get j fun z => h (List.mem_append_left _ z))⟩
theorem wipe_get {σ : L2.St} : ∀ {vs : List Nat} {j : Nat}, (L2.wipe σ vs)[j]? = if j ∈ vs then (if j < σ.length then some none else none) else σ[j]?
  | [], j => by simp [L2.wipe]
  | v :: vs, j => by
    show ((L2.wipe σ vs).set v none)[j]? = _
    rw [List.getElem?_set]
    by_cases hj : v = j
    · subst hj
      simp [wipe_length]
    · rw [if_neg hj, wipe_get (vs := vs)]
      have : (j ∈ v :: vs) ↔ j ∈ vs := by simp [Ne.symm hj]
      simp only [this]
theorem But.wipe {us vs : List Nat} {σ σ' : L2.St} (b : But us σ σ') (h : ∀ j, j ∈ us → j ∈ vs) : L2.wipe σ' vs = L2.wipe σ vs := by
  apply List.ext_getElem?
  intro j
  rw [wipe_get, wipe_get, b.len]
  by_cases hj : j ∈ vs
  · rw [if_pos hj, if_pos hj]
  · rw [if_neg hj, if_neg hj]
    exact b.get j fun z => hj (h j z)
noncomputable def TDg (K : PySem.W.Frag) (cl : Str → Addr) (tg : Tg) : TG := fun v σ H Q => ∃ am e S d e', RelS K cl am S H ∧ RelE K am H e σ ∧ VR K am H d v ∧ bindT tg d e = some e' ∧ ∀ σ', RelE K am H e' σ' → But tg.sl σ σ' → Q σ' H
noncomputable def TDgs (K : PySem.W.Frag) (cl : Str → Addr) (tg : List Tg) : TGs := fun vs σ H Q => ∃ am e S ds e', RelS K cl am S H ∧ RelE K am H e σ ∧ VRs K am H ds vs ∧ bindTs tg ds e = some e' ∧ ∀ σ', RelE K am H e' σ' → But (slTs tg) σ σ' → Q σ' H
noncomputable abbrev QG (cl : Str → Addr) (X : Cx) (target : Expr) (tg : Tg) : Prop := PG X target (TDg X.K cl tg)
noncomputable abbrev QGs (cl : Str → Addr) (X : Cx) (ts : List Expr) (tg : List Tg) : Prop := PGs X ts (TDgs X.K cl tg)
theorem _root_.L2.PG.imp {X : Cx} {e : Expr} {t t' : TG} (h : PG X e t) (i : ∀ v σ H Q, t' v σ H Q → t v σ H Q) : PG X e t' := ⟨fun pins s σ H v u Q I r q => h.run pins s σ H v u Q I r (i v σ H Q q)⟩
theorem _root_.L2.PGs.imp {X : Cx} {e : List Expr} {t t' : TGs} (h : PGs X e t) (i : ∀ v σ H Q, t' v σ H Q → t v σ H Q) : PGs X e t' := ⟨fun pins s σ H v u Q I r q => h.run pins s σ H v u Q I r (i v σ H Q q)⟩
section
variable {cl : Str → Addr} {X : Cx} {pos : Pos}
theorem But.set {i : Nat} {σ : L2.St} {v : Option V} : But [i] σ (σ.set i v) := ⟨List.length_set, fun j h => by rw [List.getElem?_set_ne]; simpa [eq_comm] using h⟩
theorem qg_nm {i : Nat} {x : Str} (hN : X.N.Nodup) (hi : X.N[i]? = some x) (hx : Loc X.env.scope x) (hf : X.fn x = true ∨ X.env.scope.names.lookup x = some .local := by first | exact .inl rfl | exact .inr rfl | assumption) : QG cl X (.Name x pos) (.nm i) :=
  (pg_name hN hi hx hf).imp fun v σ H Q ⟨am, e, S, d, e', rs, re, rv, eb, q⟩ => by
    cases eb
    exact q _ (re.set i rv) But.set
theorem qgs_nil : QGs cl X [] [] := pgs_nil.imp fun v σ H Q ⟨am, e, S, d, e', rs, re, rv, eb, q⟩ => by
  cases rv with
  | nil =>
    cases eb
    exact ⟨rfl, q σ re .refl⟩
  | cons _ _ => cases eb
theorem qgs_cons {e : Expr} {es : List Expr} {t : Tg} {ts : List Tg} (h1 : QG cl X e t) (h2 : QGs cl X es ts) (hs : (assignEach (e :: es) X.env).map (·.2) = assign e X.env :: (assignEach es X.env).map (·.2) := by rfl) : QGs cl X (e :: es) (t :: ts) :=
  (pgs_cons h1 h2 hs).imp fun v σ H Q ⟨am, e, S, ds, e', rs, re, rv, eb, q⟩ => by
    cases rv with
    | nil => cases eb
    | @cons d v1 ds1 vs1 r1 r2 =>
      have eb : ((bindT t d e).bind fun e => bindTs ts ds1 e) = some e' := eb
      cases q1 : bindT t d e with
      | none => rw [q1] at eb; cases eb
      | some e1 =>
        rw [q1] at eb
        exact ⟨_, _, rfl, am, e, S, d, e1, rs, re, r1, q1, fun σ1 re1 b1 => ⟨am, e1, S, ds1, e', rs, re1, r2, eb, fun σ2 re2 b2 => q σ2 re2 (b1.trans b2)⟩⟩
theorem qg_tp {es : List Expr} {k : Nat} {ts : List Tg} {n : Nat} (hc : X.calm = true) (h : QGs cl X es ts) (hl : ts.length = n) (hn : (assignEach es X.env).length = n := by rfl) (hst : (assignEach es X.env).findIdx? (·.1) = none := by rfl) : QG cl X (.Tuple es k pos) (.tp ts) :=
  (pg_tup hc h hn hst).imp fun v σ H Q ⟨am, e, S, d, e', rs, re, rv, eb, q⟩ => by
    have len : ∀ (ts : List Tg) (ds : List D) (e e' : En), bindTs ts ds e = some e' → ds.length = ts.length := by
      intro ts
      induction ts with
      | nil => intro ds e e' h; cases ds with | nil => rfl | cons _ _ => cases h
      | cons t ts ih =>
        intro ds e e' h
        cases ds with
        | nil => cases h
        | cons d ds =>
          have h : ((bindT t d e).bind fun e => bindTs ts ds e) = some e' := h
          cases q1 : bindT t d e with
          | none => rw [q1] at h; cases h
          | some e1 => rw [q1] at h; rw [List.length_cons, List.length_cons, ih ds e1 e' h]
    cases rv with
    | @tup a vs ds ht hs => exact ⟨a, vs, rfl, ht.seq, by rw [← hs.length, len ts ds e e' eb, hl], am, e, S, ds, e', rs, re, hs, eb, q⟩
    | @tpi a vs ds ht hs => exact ⟨a, vs, rfl, .inl ht.1, by rw [← hs.length, len ts ds e e' eb, hl], am, e, S, ds, e', rs, re, hs, eb, q⟩
    | _ => cases eb
end
/-- target = value, any target of names -/
noncomputable def sAsg (tg : Tg) (f : Ev D) : Stm := fun e S => (f e S).stm e fun d S => match bindT tg d e with
  | some e' => .next e' S
  | none => .bad
/-- a key as a value -/
noncomputable def kyD : Key → D
  | .inl i => .int i
  | .inr x => .str x
inductive Src where
  | tmp (xs : List D) | st (k : Nat) (xs : List D) | fk (k : Nat) (od : Obj) (vs : List (Key × V)) (kvs : List (Key × D)) | cd (ks : List (Nat × List D)) (xs : List D)
noncomputable def Src.items : Src → List D
  | .tmp xs => xs
  | .st _ xs => xs
  | .fk _ _ _ kvs => kvs.map fun p => kyD p.1
  | .cd _ xs => xs
noncomputable def Src.ok : Src → Sto → Prop
  | .tmp _, _ => True
  | .st k xs, S => S[k]? = some (.lst xs)
  | .fk k od vs kvs, S => S[k]? = some (.fdc od vs kvs)
  | .cd ks _, S => ∀ p ∈ ks, S[p.1]? = some (.lst p.2)
noncomputable instance (src : Src) (S : Sto) : Decidable (src.ok S) := Classical.propDecidable _
@[simp] theorem Src.items_tmp {xs : List D} : (Src.tmp xs).items = xs := id rfl
@[simp] theorem Src.items_st {k : Nat} {xs : List D} : (Src.st k xs).items = xs := id rfl
@[simp] theorem Src.ok_tmp {xs : List D} {S : Sto} : (Src.tmp xs).ok S = True := id rfl
@[simp] theorem Src.ok_st {xs : List D} {k : Nat} {S : Sto} : (Src.st k xs).ok S = (S[k]? = some (.lst xs)) := id rfl
/-- an iterator gives the items -/
noncomputable def SrcJ (K : PySem.W.Frag) (cl : Str → Addr) (src : Src) (am : AM) (H : Hp) (J : It) : Prop :=
  ∀ (am' : AM) (H' : Hp) (S' : Sto), Grow am am' H H' → RelS K cl am' S' H' → src.ok S' →
    (∀ (i : Nat) (d : D), src.items[i]? = some d → J.go i H' ∧ ∀ (x : V) (H2 : Hp), J.yld i H' x H2 → ∃ am2, Grow am' am2 H' H2 ∧ RelS K cl am2 S' H2 ∧ VR K am2 H2 d x) ∧
    (∀ i : Nat, src.items.length ≤ i → J.stop i H')
noncomputable def TDi (K : PySem.W.Frag) (cl : Str → Addr) (W : WX) (f : Ev Src) : TI := fun σ H R => ∃ am e S, RelS K cl am S H ∧ RelE K am H e σ ∧ Post K cl W σ (SrcJ K cl |> fun P => fun am H (s : Src) (J : It) => P s am H J) am H (f e S) R
noncomputable abbrev QI (cl : Str → Addr) (W : WX) (X : Cx) (tg iter : Expr) (f : Ev Src) : Prop := PI X tg iter (TDi X.K cl W f)
theorem _root_.L2.PI.imp {X : Cx} {tg e : Expr} {t t' : TI} (h : PI X tg e t) (i : ∀ σ H R, t' σ H R → t σ H R) : PI X tg e t' := ⟨fun pins s σ H R I q => h.run pins s σ H R I (i σ H R q)⟩
/-- a value as a source: a list or a tuple -/
noncomputable def srcL (d : D) (S : Sto) : Res Src := match d with
  | .lst xs => .ok (.tmp xs) S
  | .fls xs => .ok (.tmp xs) S
  | .ref k => match S[k]? with
    | some (.lst xs) => .ok (.st k xs) S
    | _ => .bad
  | _ => .bad
noncomputable def srcT (d : D) (S : Sto) : Res Src := match d with
  | .tup xs => .ok (.tmp xs) S
  | _ => .bad
noncomputable def iL (f : Ev D) : Ev Src := fun e S => (f e S).bind srcL
noncomputable def iT (f : Ev D) : Ev Src := fun e S => (f e S).bind srcT
section
variable {cl : Str → Addr} {W : WX} {X : Cx} {a b tgE : Expr} {f g : Ev D} {pos : Pos} {K : PySem.W.Frag}
theorem itl_ok {src : Src} {am : AM} {H : Hp} {a : Addr} (h : ∀ (am' : AM) (H' : Hp) (S' : Sto), Grow am am' H H' → RelS K cl am' S' H' → src.ok S' → ∃ vs, SqL K H' a vs ∧ VRs K am' H' src.items vs) : SrcJ K cl src am H (Itl K a) := by
  intro am' H' S' g rs hs
  obtain ⟨vs, h1, h2⟩ := h am' H' S' g rs hs
  refine ⟨fun i d hd => ?_, fun i hi => ⟨vs, h1, by rw [← h2.length]; exact hi⟩⟩
  obtain ⟨v, hv, rv⟩ := h2.get hd
  refine ⟨⟨vs, v, h1, hv⟩, fun x H2 hy => ?_⟩
  obtain ⟨rfl, hy⟩ := hy
  have e : v = x := Option.some.inj (hv.symm.trans (hy vs h1))
  subst e
  exact ⟨am', .refl, rs, rv⟩
theorem qi_l (ha : QE cl W X a f) : QI cl W X tgE a (iL f) := (pi_list ha).imp fun σ H R ⟨am, e, S, rs, re, p⟩ =>
  ⟨am, e, S, rs, re, (Post.step p).imp fun x H1 ⟨am1, S1, d, _, g1, rs1, rv, p1⟩ => by
    cases rv with
    | @lst a vs ds h1 h2 h3 =>
      refine ⟨a, rfl, ⟨vs, .inl (.inl h1)⟩, p1 am1 _ H1 .refl rs1 (itl_ok fun am' H' S' g rs hs => ⟨vs, .inl (.inl (g.ext.keep _ _ h1 h2).1), h3.mono g⟩)⟩
    | @fls a vs ds h1 h3 =>
      refine ⟨a, rfl, ⟨vs, h1.seq⟩, p1 am1 _ H1 .refl rs1 (itl_ok fun am' H' S' g rs hs => ⟨vs, (h1.ext g.ext).seq, h3.mono g⟩)⟩
    | @ref k a h1 =>
      simp only [srcL] at p1
      cases q : S1[k]? with
      | none => rw [q] at p1; exact p1.elim
      | some o =>
        rw [q] at p1
        cases o with
        | lst xs =>
          obtain ⟨vs, h2, h3⟩ := rs1.ob k _ a q h1
          refine ⟨a, rfl, ⟨vs, .inl (.inl h2)⟩, p1 am1 _ H1 .refl rs1 (itl_ok fun am' H' S' g rs hs => ?_)⟩
          obtain ⟨vs', h2', h3'⟩ := rs.ob k _ a hs (g.get h1)
          exact ⟨vs', .inl (.inl h2'), h3'⟩
        | dct _ => exact p1.elim
        | ins _ _ => exact p1.elim
        | fdc _ _ _ => exact p1.elim
        | tdc _ => exact p1.elim
    | _ => exact p1.elim⟩
theorem qi_t (ha : QE cl W X a f) : QI cl W X tgE a (iT f) := (pi_tup ha).imp fun σ H R ⟨am, e, S, rs, re, p⟩ =>
  ⟨am, e, S, rs, re, (Post.step p).imp fun x H1 ⟨am1, S1, d, _, g1, rs1, rv, p1⟩ => by
    cases rv with
    | @tup a vs ds h1 h2 =>
      refine ⟨a, rfl, ⟨vs, h1.seq⟩, p1 am1 _ H1 .refl rs1 fun am' H' S' g rs hs => ?_⟩
      have h1' := (h1.ext g.ext).seq
      have h2' := h2.mono g
      refine ⟨fun i d hd => ?_, fun i hi => ⟨vs, h1', by rw [← h2'.length]; exact hi⟩⟩
      obtain ⟨v, hv, rv⟩ := h2'.get hd
      refine ⟨⟨vs, v, h1', hv⟩, fun x H2 hy => ?_⟩
      obtain ⟨rfl, hy⟩ := hy
      have e : v = x := Option.some.inj (hv.symm.trans (hy vs h1'))
      subst e
      exact ⟨am', .refl, rs, rv⟩
    | _ => exact p1.elim⟩
/-- range -/
noncomputable def rngD (lo hi : Int) : List D := (List.range (hi - lo).toNat).map fun i : Nat => D.int (lo + (i : Nat))
noncomputable def Rg62 (i : Int) : Prop := -(2 ^ 62) ≤ i ∧ i < 2 ^ 62
noncomputable instance (i : Int) : Decidable (Rg62 i) := by unfold Rg62; infer_instance
noncomputable def srcR1 (ds : List D) (S : Sto) : Res Src := match ds with
  | [.int j] => if Rg62 j then .ok (.tmp (rngD 0 j)) S else .bad
  | _ => .bad
noncomputable def srcR2 (ds : List D) (S : Sto) : Res Src := match ds with
  | [.int i, .int j] => if Rg62 i ∧ Rg62 j then .ok (.tmp (rngD i j)) S else .bad
  | _ => .bad
noncomputable def iR1 (f : Ev D) : Ev Src := fun e S => (eArgs [f] e S).bind srcR1
noncomputable def iR2 (f g : Ev D) : Ev Src := fun e S => (eArgs [f, g] e S).bind srcR2
theorem itr_ok {lo : Int} {n : Nat} {xs : List D} {am : AM} {H : Hp} (hx : xs = (List.range n).map fun i : Nat => D.int (lo + (i : Nat))) : SrcJ K cl (.tmp xs) am H (Itr lo n) := by
  intro am' H' S' g rs hs
  subst hx
  refine ⟨fun i d hd => ?_, fun i hi => by simpa [Itr] using hi⟩
  have hi : i < n := by
    have := (List.getElem?_eq_some_iff.mp hd).1
    simpa using this
  have e : d = .int (lo + (i : Nat)) := by
    have hd : ((List.range n).map fun i : Nat => D.int (lo + (i : Nat)))[i]? = some d := hd
    rw [List.getElem?_map, List.getElem?_range hi] at hd
    exact (Option.some.inj hd).symm
  subst e
  refine ⟨hi, fun x H2 hy => ?_⟩
  obtain ⟨rfl, rfl⟩ := hy
  exact ⟨am', .refl, rs, .int _⟩
variable {p' : Pos}
theorem qi_r1 (hg : Gl X "range") (hm : X.mg "range" = none) (ha : QE cl W X a f) (h0 : starEach [a] X.env = (false, eval a X.env) :: starEach [] X.env := by rfl) (hs : starEach [a] X.env = [(false, eval a X.env)] := by rfl) : QI cl W X tgE (.Call (.Name "range" p') [a] [] pos) (iR1 f) :=
  (pi_range1 hg hm (qa_cons ha qa_nil h0) hs).imp fun σ H R ⟨am, e, S, rs, re, p⟩ =>
    ⟨am, e, S, rs, re, (Post.step p).imp fun xs H1 ⟨am1, S1, ds, _, g1, rs1, rv, p1⟩ => by
      cases rv with
      | nil => exact p1.elim
      | cons r1 r2 =>
        cases r2 with
        | nil =>
          cases r1 with
          | int j =>
            simp only [srcR1] at p1
            by_cases hj : Rg62 j
            · rw [if_pos hj] at p1
              exact ⟨j, rfl, hj.1, hj.2, p1 am1 _ H1 .refl rs1 (itr_ok (by unfold rngD; simp))⟩
            · rw [if_neg hj] at p1
              exact p1.elim
          | _ => exact p1.elim
        | cons _ _ => cases r1 <;> exact p1.elim⟩
end
/-- dead: slots that a turn leaves for none -/
noncomputable def forD (dead : List Nat) (tg : Tg) (src : Src) (body : Stm) : List D → En → Sto → SRes
  | [], e, S => if src.ok S then .next e S else .bad
  | x :: xs, e, S => if src.ok S then match bindT tg x e with
    | none => .bad
    | some e1 => match body e1 S with
      | .next e2 S2 => forD dead tg src body xs (wipeE e2 dead) S2
      | .cnt e2 S2 => forD dead tg src body xs (wipeE e2 dead) S2
      | .brk e2 S2 => .next e2 S2
      | r => r
    else .bad
noncomputable def sFor (dead : List Nat) (tg : Tg) (it : Ev Src) (body : Stm) : Stm := fun e S => (it e S).stm e fun src S => forD dead tg src body src.items e S
section
variable {cl : Str → Addr} {W : WX} {X : Cx} {tgE iter : Expr} {body : List Stmt} {pos : Pos} {it : Ev Src} {tg : Tg} {u : Stm}
theorem qs_for (dead : List Nat) (hp : PassesOwn (model X.prog X.w) X.A X.env X.xe) (hc : X.calm = true) (hi : QI cl W X tgE iter it) (hg : QG cl X tgE tg) (hb : QB cl W X body u) (hs : ∀ x, foldedSetIterable iter X.env x = pure x := by intro _; rfl) :
    QS cl W X (.For tgE iter body [] pos) (sFor dead tg it u) := (ps_for hp hc hi hg hb hs).imp fun E σ H ⟨am, e, S, rs, re, p⟩ => by
  refine ⟨am, e, S, rs, re, (PostS.step re p).imp fun J H1 ⟨am1, S1, src, _, g1, rs1, hJ, p1⟩ => ?_⟩
  refine ⟨fun i m σ H => m = src.items.length - i ∧ i ≤ src.items.length ∧ ∃ am2 e2 S2, Grow am1 am2 H1 H ∧ RelS X.K cl am2 S2 H ∧ RelE X.K am2 H e2 σ ∧ PostS X.K cl W am2 H (forD dead tg src u (src.items.drop i) e2 S2) E,
    ⟨_, rfl, Nat.zero_le _, am1, e, S1, .refl, rs1, re.mono g1, by rw [List.drop_zero]; exact p1⟩, ?_⟩
  rintro i m σ2 H2 ⟨rfl, hi, am2, e2, S2, g2, rs2, re2, p2⟩
  by_cases hok : src.ok S2
  · obtain ⟨hgo, hstop⟩ := hJ am2 H2 S2 g2 rs2 hok
    by_cases hlt : i < src.items.length
    · rw [List.drop_eq_getElem_cons hlt] at p2
      unfold forD at p2
      rw [if_pos hok] at p2
      have hd : src.items[i]? = some src.items[i] := List.getElem?_eq_getElem hlt
      obtain ⟨go, yld⟩ := hgo i _ hd
      refine .inr ⟨go, fun σ' H' => ∃ am3 e3 S3, Grow am1 am3 H1 H' ∧ RelS X.K cl am3 S3 H' ∧ RelE X.K am3 H' e3 σ' ∧ PostS X.K cl W am3 H' (forD dead tg src u (src.items.drop (i + 1)) e3 S3) E,
        fun σ' H' hN => ⟨src.items.length - (i + 1), by omega, rfl, hlt, hN⟩, fun x H3 hy => ?_⟩
      obtain ⟨am3, g3, rs3, rv⟩ := yld x H3 hy
      cases q : bindT tg src.items[i] e2 with
      | none => simp only [q] at p2; exact p2.elim
      | some e3 =>
        simp only [q] at p2
        refine ⟨am3, e2, S2, _, e3, rs3, re2.mono g3, rv, q, fun σ3 re3 _ => ⟨am3, e3, S2, rs3, re3, ?_⟩⟩
        cases q2 : u e3 S2 with
        | next e4 S4 =>
          simp only [q2] at p2
          exact fun am4 σ4 H4 g4 rs4 re4 => ⟨am4, _, S4, (g2.trans g3).trans g4, rs4, re4.forget dead, PostS.grow (g3.trans g4) p2⟩
        | cnt e4 S4 =>
          simp only [q2] at p2
          exact fun am4 σ4 H4 g4 rs4 re4 => ⟨am4, _, S4, (g2.trans g3).trans g4, rs4, re4.forget dead, PostS.grow (g3.trans g4) p2⟩
        | brk e4 S4 =>
          simp only [q2] at p2
          exact fun am4 σ4 H4 g4 rs4 re4 => p2 am4 σ4 H4 (g3.trans g4) rs4 re4
        | ret d S4 =>
          simp only [q2] at p2
          exact fun am4 v H4 g4 rs4 rv4 => p2 am4 v H4 (g3.trans g4) rs4 rv4
        | exc c e4 S4 =>
          simp only [q2] at p2
          exact fun am4 σ4 H4 g4 rs4 re4 => p2 am4 σ4 H4 (g3.trans g4) rs4 re4
        | bad =>
          simp only [q2] at p2
          exact p2
    · have ei : i = src.items.length := by omega
      subst ei
      rw [List.drop_length] at p2
      unfold forD at p2
      rw [if_pos hok] at p2
      exact .inl ⟨hstop _ (Nat.le_refl _), p2 am2 σ2 H2 .refl rs2 re2⟩
  · exfalso
    cases hl : src.items.drop i with
    | nil => rw [hl] at p2; unfold forD at p2; rw [if_neg hok] at p2; exact p2
    | cons x xs => rw [hl] at p2; unfold forD at p2; rw [if_neg hok] at p2; exact p2
end
end Pu
set_option Elab.async false
set_option linter.all false
set_option maxRecDepth 100000
namespace Pu
open PySem PySem.Spec PyProof.Rows L2
/-- nothing may be raised here -/
noncomputable def nox {α : Type} (r : Res α) : Res α := match r with
  | .ok a S => .ok a S
  | _ => .bad
@[simp] theorem nox_ok {α : Type} {a : α} {S : Sto} : nox (.ok a S) = .ok a S := id rfl
noncomputable def lcD (tg : Tg) (src : Src) (t : Ev Bool) (f : Ev D) (e : En) : List D → Sto → Res (List D)
  | [], S => if src.ok S then .ok [] S else .bad
  | x :: xs, S => if src.ok S then match bindT tg x e with
    | none => .bad
    | some e1 => (nox (t e1 S)).bind fun b S => if b = true then (nox (f e1 S)).bind fun d S => (lcD tg src t f e xs S).bind fun ds S => .ok (d :: ds) S else lcD tg src t f e xs S
    else .bad
theorem lcD_nil {tg : Tg} {src : Src} {t : Ev Bool} {f : Ev D} {e : En} {S : Sto} : lcD tg src t f e [] S = if src.ok S then .ok [] S else .bad := by
  unfold lcD
  rfl
theorem lcD_cons {tg : Tg} {src : Src} {t : Ev Bool} {f : Ev D} {e : En} {S : Sto} {x : D} {xs : List D} : lcD tg src t f e (x :: xs) S = if src.ok S then match bindT tg x e with
    | none => .bad
    | some e1 => (nox (t e1 S)).bind fun b S => if b = true then (nox (f e1 S)).bind fun d S => (lcD tg src t f e xs S).bind fun ds S => .ok (d :: ds) S else lcD tg src t f e xs S
    else .bad := by
  conv => lhs; unfold lcD
noncomputable def nLc (vs : List Nat) (tg : Tg) (it : Ev Src) (t : Ev Bool) (f : Ev D) : Ev DO := fun e S => (it e S).bind fun src S => if src.items.length ≤ sizeLine then (lcD tg src t f (wipeE e vs) src.items S).bind fun ds S => .ok (.lst ds) S else .bad
noncomputable def tYesD : Ev Bool := fun _ S => .ok true S
noncomputable abbrev W0 : WX := fun _ _ _ _ => False
section
variable {K : PySem.W.Frag} {cl : Str → Addr} {W : WX} {am am' : AM} {H H' : Hp} {S : Sto}
/-- a reserved object is written by its owner -/
theorem Ext.own {D : Addr} {o : HO} (hn : D ∈ am.no) : Ext am am H (L2.upd H D o) := ⟨fun _ _ h => h, fun b u hb nb => ⟨by rw [upd_ne (show b ≠ D from fun e => nb (by rw [e]; exact hn))]; exact hb, nb⟩⟩
theorem RelS.own {D : Addr} {o : HO} (r : RelS K cl am S H) (hn : D ∈ am.no) (hd : D ∉ am.ad) : RelS K cl am S (L2.upd H D o) :=
  ⟨r.len, r.nd, fun k u b h1 h2 => (r.ob k u b h1 h2).ext (Ext.own hn) fun w hw => by rw [upd_ne (show b ≠ D from fun e => hd (by rw [← e]; exact List.mem_of_getElem? h2))]; exact hw, fun b hb => by
    by_cases e : b = D
    · exact ⟨o, by rw [e]; exact upd_same⟩
    · obtain ⟨u, q⟩ := r.there b hb
      exact ⟨u, by rw [upd_ne e]; exact q⟩⟩
theorem Grow.own {D : Addr} {o : HO} (g : Grow am am' H H') (h : H D = none) : Grow am am' H (L2.upd H' D o) := ⟨g.pre, g.fresh, g.freshNo, g.noK, fun b u hb nb => by
  rw [upd_ne (ne_of_none hb h)]
  exact g.keep b u hb nb⟩
theorem Grow.inNo {D : Addr} (g : Grow am am' H H') (hD : ∃ o, H D = some o) (hd : D ∉ am.ad) : D ∉ am'.ad := fun z => by
  obtain ⟨o, e⟩ := hD
  have q := g.fresh D z hd
  rw [e] at q; cases q
end
section
variable {cl : Str → Addr} {W : WX} {X : Cx} {elt tgE iter : Expr} {ifs : List Expr} {scope : Scope} {own : List (Str × Nat)} {pos spos : Pos} {it : Ev Src} {tg : Tg} {t : Ev Bool} {f : Ev D}
/-- a clause's tests -/
noncomputable abbrev QTs (cl : Str → Addr) (W : WX) (X : Cx) (ifs : List Expr) (f : Ev Bool) : Prop := PTs X ifs (TD X.K cl W RB f)
theorem qts_nil {X : Cx} : QTs cl W X [] tYesD := ⟨fun pins s σ H Q I ⟨am, e, S, rs, re, p⟩ => pts_nil.run pins s σ H Q I (p am true H .refl rs rfl)⟩
theorem qts_one {X : Cx} {c : Expr} {f : Ev Bool} (h : QT cl W X c f) : QTs cl W X [c] f := pts_one h
/-- the reading of a comprehension, whatever becomes of the list -/
theorem imp_lc {K : PySem.W.Frag} (hsl : ∀ j, j ∈ tg.sl → j ∈ own.map (·.2)) (σ : L2.St) (H : Hp) (Q : VK) :
    TDN K cl W (nLc (own.map (·.2)) tg it t f) σ H Q → tLc (TDi K cl W it) (TDg K cl tg) (TD K cl W0 RB t) (TD K cl W0 (VR K) f) (own.map (·.2)) σ H Q := fun ⟨am, e, S, rs, re, p⟩ => by
  refine ⟨am, e, S, rs, re, (PostN.step p).imp fun J H1 ⟨am1, S1, src, _, g1, rs1, hJ, p1⟩ => ?_⟩
  intro D hD
  by_cases hz : src.items.length ≤ sizeLine
  · rw [if_pos hz] at p1
    have hD0 : H D = none := g1.unborn rs1 hD
    -- the invariant
    refine ⟨fun i m H2 => m = src.items.length - i ∧ i ≤ src.items.length ∧ ∃ am2 S2 acc vacc, Grow am1 am2 H1 H2 ∧ RelS K cl am2 S2 H2 ∧ D ∈ am2.no ∧ D ∉ am2.ad ∧ H2 D = some (.lst vacc) ∧ VRs K am2 H2 acc vacc ∧ acc.length ≤ i ∧
        RelE K am2 H2 (wipeE e (own.map (·.2))) (L2.wipe σ (own.map (·.2))) ∧
        ((lcD tg src t f (wipeE e (own.map (·.2))) src.items S1).bind fun ds S => Res.ok (DO.lst ds) S) = ((lcD tg src t f (wipeE e (own.map (·.2))) (src.items.drop i) S2).bind fun ds S => .ok (.lst (acc ++ ds)) S),
      ⟨_, rfl, Nat.zero_le _, am1.resv D, S1, [], [], Grow.resv hD, rs1.resv hD, List.mem_cons_self, fun z => rs1.new hD (am1.sub D z), upd_same, .nil, Nat.le_refl _, ((re.wipe _).mono g1).mono (Grow.resv hD), by rw [List.drop_zero] <;> rfl⟩, ?_⟩
    rintro i m H2 ⟨rfl, hi, am2, S2, acc, vacc, g2, rs2, dn, dd, hacc, racc, lacc, re2, eqn⟩
    rw [eqn] at p1
    by_cases hok : src.ok S2
    · obtain ⟨hgo, hstop⟩ := hJ am2 H2 S2 g2 rs2 hok
      by_cases hlt : i < src.items.length
      · have hd : src.items[i]? = some src.items[i] := List.getElem?_eq_getElem hlt
        obtain ⟨go, yld⟩ := hgo i _ hd
        rw [List.drop_eq_getElem_cons hlt] at p1 eqn
        rw [lcD_cons, if_pos hok] at p1 eqn
        cases q : bindT tg src.items[i] (wipeE e (own.map (·.2))) with
        | none => simp only [q] at p1; exact p1.elim
        | some e3 =>
          simp only [q] at p1 eqn
          refine .inr ⟨go, fun H' => ∃ am2 S2 acc vacc, Grow am1 am2 H1 H' ∧ RelS K cl am2 S2 H' ∧ D ∈ am2.no ∧ D ∉ am2.ad ∧ H' D = some (.lst vacc) ∧ VRs K am2 H' acc vacc ∧ acc.length ≤ i + 1 ∧
              RelE K am2 H' (wipeE e (own.map (·.2))) (L2.wipe σ (own.map (·.2))) ∧
              ((lcD tg src t f (wipeE e (own.map (·.2))) src.items S1).bind fun ds S => Res.ok (DO.lst ds) S) = ((lcD tg src t f (wipeE e (own.map (·.2))) (src.items.drop (i + 1)) S2).bind fun ds S => .ok (.lst (acc ++ ds)) S),
            fun H' hN => ⟨src.items.length - (i + 1), by omega, rfl, hlt, hN⟩, fun x H3 hy => ?_⟩
          obtain ⟨am3, g3, rs3, rv⟩ := yld x H3 hy
          refine ⟨am3, _, S2, _, e3, rs3, re2.mono g3, rv, q, fun σ3 re3 b3 => ⟨?_, ?_⟩⟩
          · rw [b3.wipe hsl]
            -- wiping twice
            apply List.ext_getElem?
            intro j
            simp only [wipe_get, wipe_length]
            by_cases hj : j ∈ own.map (·.2)
            · simp only [if_pos hj]
            · simp only [if_neg hj]
          · -- the test
            cases q2 : t e3 S2 with
            | exc c S => simp only [q2, nox, Res.bind_bad] at p1; exact p1.elim
            | bad => simp only [q2, nox, Res.bind_bad] at p1; exact p1.elim
            | ok b S4 =>
              simp only [q2, nox, Res.bind_ok] at p1 eqn
              have hDs : ∃ o, H2 D = some o := ⟨_, hacc⟩
              refine ⟨am3, e3, S2, rs3, re3, ?_⟩
              rw [q2]
              intro am4 k H4 g4 rs4 rk
              have rk : b = k := rk
              subst rk
              have g24 := g3.trans g4
              have dd4 : D ∉ am4.ad := g24.inNo hDs dd
              have keepD : ∀ {am' : AM} {H' : Hp}, Grow am2 am' H2 H' → H' D = some (.lst vacc) := fun {am' H'} g => g.keep D _ hacc dd
              cases b with
              | false =>
                rw [if_neg Bool.false_ne_true]
                rw [if_neg Bool.false_ne_true] at eqn
                exact ⟨am4, S4, acc, vacc, g2.trans g24, rs4, g24.noK D dn, dd4, keepD g24, racc.mono g24, by omega, re2.mono g24, eqn⟩
              | true =>
                rw [if_pos rfl]
                rw [if_pos rfl] at p1 eqn
                refine ⟨am4, e3, S4, rs4, re3.mono g4, ?_⟩
                cases q3 : f e3 S4 with
                | exc c S => simp only [q3, nox, Res.bind_bad] at p1; exact p1.elim
                | bad => simp only [q3, nox, Res.bind_bad] at p1; exact p1.elim
                | ok d S5 =>
                  simp only [q3, nox, Res.bind_ok] at p1 eqn
                  intro am5 y H5 g5 rs5 ry
                  have g25 := g24.trans g5
                  have dn5 := g25.noK D dn
                  have dd5 : D ∉ am5.ad := g25.inNo hDs dd
                  have hv : (vacc ++ [y]).length = (acc ++ [d]).length := by rw [List.length_append, List.length_append, racc.length] <;> rfl
                  refine ⟨vacc, keepD g25, by rw [← racc.length]; omega, am5, S5, acc ++ [d], vacc ++ [y], (g2.trans g25).own hD, rs5.own dn5 dd5, dn5, dd5, upd_same,
                    ((racc.mono g25).append (.cons ry .nil)).ext (Ext.own dn5), by rw [List.length_append]; exact Nat.succ_le_succ lacc, (re2.mono g25).ext (Ext.own dn5), ?_⟩
                  rw [eqn]
                  cases lcD tg src t f (wipeE e (own.map (·.2))) (src.items.drop (i + 1)) S5 with
                  | ok ds S6 => simp
                  | exc c S6 => rfl
                  | bad => rfl
      · have ei : i = src.items.length := by omega
        subst ei
        rw [List.drop_length] at p1
        rw [lcD_nil, if_pos hok] at p1
        simp only [Res.bind_ok, List.append_nil] at p1
        exact .inl ⟨hstop _ (Nat.le_refl _), p1 am2 D H2 (g1.trans g2) rs2 hD0 dn dd ⟨vacc, hacc, racc⟩⟩
    · exfalso
      cases hl : src.items.drop i with
      | nil => rw [hl, lcD_nil, if_neg hok] at p1; exact p1
      | cons x xs => rw [hl, lcD_cons, if_neg hok] at p1; exact p1
  · rw [if_neg hz] at p1
    exact p1.elim
variable {py : Pos}
theorem qn_lc (hc : X.calm = true) (hN : X.N.Nodup) (hi : QI cl W X tgE iter it) (ok : BlkOk X.N X.env.scope scope own) (hsl : tg.sl.all fun j => decide (j ∈ own.map (·.2)))
    (hg : ∀ (s : Shared) (H : Hp) (C : Addr) (cs : List (Str × Addr)) (fp : List Addr), QG cl (X.blk s H scope (compEnvC scope cs C X.env) fp) tgE tg) (ht : ∀ (s : Shared) (H : Hp) (C : Addr) (cs : List (Str × Addr)) (fp : List Addr), QTs cl W0 (X.blk s H scope (compEnvC scope cs C X.env) fp) ifs t)
    (he : ∀ (s : Shared) (H : Hp) (C : Addr) (cs : List (Str × Addr)) (fp : List Addr), QE cl W0 (X.blk s H scope (compEnvC scope cs C X.env) fp) elt f) (hs : ∀ x, foldedSetIterable iter X.env x = pure x := by intro _; rfl) :
    QN cl W X (.ListComp elt [⟨tgE, iter, ifs, 0⟩] scope pos) (nLc (own.map (·.2)) tg it t f) :=
  (pe_lc hc hN hi ok hg ht he hs).imp (imp_lc fun j hj => of_decide_eq_true (List.all_eq_true.mp hsl j hj))
theorem imp_set {K : PySem.W.Frag} {i : Nat} {f : Ev D} {E : Ends} {σ : L2.St} {H : Hp} (h : TDs K cl W (sSet i f) E σ H) : TD K cl W (VR K) f σ H (fun x H1 => E.nx (σ.set i (some x)) H1) :=
  let ⟨am, e, S, rs, re, p⟩ := h
  ⟨am, e, S, rs, re, (PostS.step re p).imp fun x H1 ⟨am1, S1, d, _, g1, rs1, rv, p1⟩ => p1 am1 _ H1 .refl rs1 ((re.mono g1).set i rv)⟩
/-- y = [..], on one line, y a local -/
theorem qs_setLc {i : Nat} {y : Str} {g : Ev D} (hc : X.calm = true) (hN : X.N.Nodup) (hy : X.N[i]? = some y) (hyl : X.env.scope.names.lookup y = some .local)
    (hsw : swapsWith (.ListComp elt [⟨tgE, iter, ifs, 0⟩] scope pos) (some (.Name y py)) spos.line X.env = pure true) (hi : QI cl W X tgE iter it) (ok : BlkOk X.N X.env.scope scope own) (hsl : tg.sl.all fun j => decide (j ∈ own.map (·.2)))
    (hg : ∀ (s : Shared) (H : Hp) (C : Addr) (cs : List (Str × Addr)) (fp : List Addr), QG cl (X.blk s H scope (compEnvC scope cs C X.env) fp) tgE tg) (ht : ∀ (s : Shared) (H : Hp) (C : Addr) (cs : List (Str × Addr)) (fp : List Addr), QTs cl W0 (X.blk s H scope (compEnvC scope cs C X.env) fp) ifs t)
    (he : ∀ (s : Shared) (H : Hp) (C : Addr) (cs : List (Str × Addr)) (fp : List Addr), QE cl W0 (X.blk s H scope (compEnvC scope cs C X.env) fp) elt f)
    (kind : ∀ σ H Q, TD X.K cl W (VR X.K) g σ H Q → TDN X.K cl W (nLc (own.map (·.2)) tg it t f) σ H Q) (hs : ∀ x, foldedSetIterable iter X.env x = pure x := by intro _; rfl) :
    QS cl W X (.Assign [.Name y py] (.ListComp elt [⟨tgE, iter, ifs, 0⟩] scope pos) spos) (sSet i g) :=
  (ps_setLc hc hN hy hyl hsw hi ok hg ht he hs).imp fun E σ H h => imp_lc (fun j hj => of_decide_eq_true (List.all_eq_true.mp hsl j hj)) σ H _ (kind _ _ _ (imp_set h))
end
mutual
/-- no number of the store -/
noncomputable def D.gnd : D → Bool
  | .tup xs => gnds xs
  | .tpi xs => gnds xs
  | .lst xs => gnds xs
  | .fls xs => gnds xs
  | .dct xs => gndk xs
  | .ref _ => false
  | _ => true
noncomputable def gnds : List D → Bool
  | [] => true
  | x :: xs => x.gnd && gnds xs
noncomputable def gndk : List (Key × D) → Bool
  | [] => true
  | (_, x) :: xs => x.gnd && gndk xs
end
mutual
/-- all numbers below n -/
noncomputable def D.bel (n : Nat) : D → Bool
  | .tup xs => belows n xs
  | .tpi xs => belows n xs
  | .lst xs => belows n xs
  | .fls xs => belows n xs
  | .dct xs => belowk n xs
  | .ref k => decide (k < n)
  | _ => true
noncomputable def belows (n : Nat) : List D → Bool
  | [] => true
  | x :: xs => x.bel n && belows n xs
noncomputable def belowk (n : Nat) : List (Key × D) → Bool
  | [] => true
  | (_, x) :: xs => x.bel n && belowk n xs
end
noncomputable def DO.bel (n : Nat) : DO → Bool
  | .lst xs => belows n xs
  | .dct xs => belowk n xs
  | .ins _ fs => fs.all fun p => p.2.bel n
  | .fdc _ _ xs => belowk n xs
  | .tdc xs => xs.all fun p => p.2.bel n
mutual
theorem gnd_below (n : Nat) : ∀ d : D, d.gnd = true → d.bel n = true
  | .tup xs, h => gnds_below n xs h
  | .tpi xs, h => gnds_below n xs h
  | .lst xs, h => gnds_below n xs h
  | .fls xs, h => gnds_below n xs h
  | .dct xs, h => gndk_below n xs h
  | .ref _, h => absurd h (by simp [D.gnd])
  | .non, _ => rfl
  | .bl _, _ => rfl
  | .int _, _ => rfl
  | .str _, _ => rfl
theorem gnds_below (n : Nat) : ∀ xs : List D, gnds xs = true → belows n xs = true
  | [], _ => rfl
  | x :: xs, h => by
    have h' : x.gnd = true ∧ gnds xs = true := by simpa [gnds] using h
    show (x.bel n && belows n xs) = true
    rw [gnd_below n x h'.1, gnds_below n xs h'.2]
    rfl
theorem gndk_below (n : Nat) : ∀ xs : List (Key × D), gndk xs = true → belowk n xs = true
  | [], _ => rfl
  | (k, x) :: xs, h => by
    have h' : x.gnd = true ∧ gndk xs = true := by simpa [gndk] using h
    show (x.bel n && belowk n xs) = true
    rw [gnd_below n x h'.1, gndk_below n xs h'.2]
    rfl
end
noncomputable def allSome {α : Type} : List (Option α) → Option (List α)
  | [] => some []
  | some x :: xs => (allSome xs).map (x :: ·)
  | none :: _ => none
/-- what came up within a def is handed back by its data -/
noncomputable def frzV (n : Nat) (S : Sto) : Nat → D → Option D
  | 0, d => if d.bel n = true then some d else none
  | f + 1, d => if d.bel n = true then some d else match d with
    | .ref k => match S[k]? with
      | some (.lst xs) => (allSome (xs.map (frzV n S f))).map .lst
      | some (.dct xs) => (allSome (xs.map fun p => (frzV n S f p.2).map fun y => (p.1, y))).map .dct
      | _ => none
    | .tup xs => (allSome (xs.map (frzV n S f))).map .tup
    | .lst xs => (allSome (xs.map (frzV n S f))).map .lst
    | .dct xs => (allSome (xs.map fun p => (frzV n S f p.2).map fun y => (p.1, y))).map .dct
    | _ => none
/-- what stood keeps within what stood -/
noncomputable def Clo (S S' : Sto) : Prop := S.length ≤ S'.length ∧ ∀ (k : Nat) (o : DO), k < S.length → S'[k]? = some o → S[k]? = some o ∨ o.bel S.length = true
noncomputable instance (S S' : Sto) : Decidable (Clo S S') := Classical.propDecidable _
/-- frz: by its data; keep: all stays; new: one new object comes along -/
inductive Md where
  | frz | keep | new
noncomputable def fin (m : Md) (S : Sto) (d : D) (S' : Sto) : Res D := match m with
  | .keep => .ok d S'
  | .frz => if Clo S S' then (opt (frzV S.length S' 6 d) (S'.take S.length)) else .bad
  | .new => match d with
    | .ref k => if Clo S S' ∧ S.length ≤ k then match S'[k]? with
        | some o => if o.bel S.length = true then .ok (.ref S.length) (S'.take S.length ++ [o]) else .bad
        | none => .bad
      else .bad
    | _ => .bad
noncomputable def retD (m : Md) (S : Sto) (r : SRes) : Res D := match r with
  | .ret d S' => fin m S d S'
  | .next _ S' => fin m S .non S'
  | .exc c _ S' => match m with
    | .keep => .exc c S'
    | _ => if Clo S S' then .exc c (S'.take S.length) else .bad
  | _ => .bad
noncomputable def startE (n : Nat) (ds : List D) : En := ds.map some ++ List.replicate (n - ds.length) none
/-- a def by its body: n names -/
noncomputable def runD (m : Md) (n : Nat) (body : Stm) (ds : List D) (S : Sto) : Res D := retD m S (body (startE n ds) S)
section
variable {K : PySem.W.Frag} {cl : Str → Addr} {W : WX} {am am' : AM} {H H' : Hp} {S S' : Sto} {σ : L2.St}
mutual
theorem VR.bel : ∀ {d : D} {v : V}, VR K am H d v → d.bel am.ad.length = true
  | _, _, .non => rfl
  | _, _, .bl _ => rfl
  | _, _, .int _ => rfl
  | _, _, .str _ => rfl
  | _, _, .tup _ hs => VRs.bel hs
  | _, _, .tpi _ hs => VRs.bel hs
  | _, _, .lst _ _ hs => VRs.bel hs
  | _, _, .fls _ hs => VRs.bel hs
  | _, _, .dct _ _ hs => VRk.bel hs
  | _, _, .ref h => decide_eq_true (List.getElem?_eq_some_iff.mp h).1
theorem VRs.bel : ∀ {ds : List D} {vs : List V}, VRs K am H ds vs → belows am.ad.length ds = true
  | _, _, .nil => rfl
  | _, _, .cons h t => by
    show (D.bel _ _ && belows _ _) = true
    rw [VR.bel h, VRs.bel t]
    rfl
theorem VRk.bel : ∀ {ds : List (Key × D)} {vs : List (Key × V)}, VRk K am H ds vs → belowk am.ad.length ds = true
  | _, _, .nil => rfl
  | _, _, .cons h t => by
    show (D.bel _ _ && belowk _ _) = true
    rw [VR.bel h, VRk.bel t]
    rfl
end
theorem VRf_bel : ∀ {fs : List (Str × D)} {vs : List (Str × V)}, VRf K am H fs vs → (fs.all fun p => p.2.bel am.ad.length) = true
  | _, _, .nil => rfl
  | _, _, .cons h t => by
    rw [List.all_cons, VRf_bel t, h.2.bel]
    rfl
theorem VRt_bel : ∀ {fs : List (List Int × D)} {vs : List (List Int × Addr × Addr)}, VRt K am H fs vs → (fs.all fun p => p.2.bel am.ad.length) = true
  | _, _, .nil => rfl
  | _, _, .cons h t => by
    rw [List.all_cons, VRt_bel t, h.2.2.bel]
    rfl
theorem OR.bel {a : Addr} {o : DO} (h : OR K cl am H a o) : o.bel am.ad.length = true := by
  cases o with
  | lst xs => obtain ⟨vs, _, h⟩ := h; exact h.bel
  | dct xs => obtain ⟨vs, _, h⟩ := h; exact h.bel
  | ins c fs =>
    obtain ⟨dx, vs, _, h⟩ := h
    exact VRf_bel h
  | fdc _ _ xs => exact h.2.bel
  | tdc xs => obtain ⟨vs, _, h⟩ := h; exact VRt_bel h
/-- the store cut back -/
noncomputable def AM.cut (am : AM) (n : Nat) (x : List Addr) (nd : am.ad.Nodup) : AM := ⟨am.ad.take n, am.no.filter fun b => decide (b ∉ am.ad.drop n ∨ b ∈ x), fun a ha => List.mem_filter.mpr ⟨am.sub a (List.mem_of_mem_take ha), decide_eq_true (.inl fun z => by
  have q : (am.ad.take n ++ am.ad.drop n).Nodup := by rw [List.take_append_drop]; exact nd
  exact (List.nodup_append.mp q).2.2 a ha a z rfl)⟩⟩
theorem cut_not {nd : am.ad.Nodup} {n : Nat} {x : List Addr} {a : Addr} (h : a ∉ am.no) : a ∉ (am.cut n x nd).no := fun z => h (List.mem_filter.mp z).1
mutual
theorem VR.cut {n : Nat} {x : List Addr} (nd : am.ad.Nodup) : ∀ {d : D} {v : V}, VR K am H d v → d.bel n = true → VR K (am.cut n x nd) H d v
  | _, _, .non, _ => .non
  | _, _, .bl b, _ => .bl b
  | _, _, .int i, _ => .int i
  | _, _, .str x, _ => .str x
  | _, _, .tup h hs, q => .tup (by
      rcases h with ⟨o, h, d, n⟩ | h
      · exact .inl ⟨o, h, d, cut_not n⟩
      · exact .inr h) (VRs.cut nd hs q)
  | _, _, .tpi h hs, q => .tpi ⟨h.1, cut_not h.2⟩ (VRs.cut nd hs q)
  | _, _, .lst h n hs, q => .lst h (cut_not n) (VRs.cut nd hs q)
  | _, _, .fls h hs, q => .fls (by
      rcases h with ⟨h, n⟩ | h
      · exact .inl ⟨h, cut_not n⟩
      · exact .inr h) (VRs.cut nd hs q)
  | _, _, .dct h n hs, q => .dct h (cut_not n) (VRk.cut nd hs q)
  | _, _, .ref h, q => .ref (by
      show (am.ad.take n)[_]? = some _
      rw [List.getElem?_take_of_lt (of_decide_eq_true q)]
      exact h)
theorem VRs.cut {n : Nat} {x : List Addr} (nd : am.ad.Nodup) : ∀ {ds : List D} {vs : List V}, VRs K am H ds vs → belows n ds = true → VRs K (am.cut n x nd) H ds vs
  | _, _, .nil, _ => .nil
  | _, _, .cons h t, q => .cons (VR.cut nd h (Bool.and_eq_true_iff.mp q).1) (VRs.cut nd t (Bool.and_eq_true_iff.mp q).2)
theorem VRk.cut {n : Nat} {x : List Addr} (nd : am.ad.Nodup) : ∀ {ds : List (Key × D)} {vs : List (Key × V)}, VRk K am H ds vs → belowk n ds = true → VRk K (am.cut n x nd) H ds vs
  | _, _, .nil, _ => .nil
  | _, _, .cons h t, q => .cons (VR.cut nd h (Bool.and_eq_true_iff.mp q).1) (VRk.cut nd t (Bool.and_eq_true_iff.mp q).2)
end
theorem VRf_cut {n : Nat} {x : List Addr} (nd : am.ad.Nodup) : ∀ {fs : List (Str × D)} {vs : List (Str × V)}, VRf K am H fs vs → (fs.all fun p => p.2.bel n) = true → VRf K (am.cut n x nd) H fs vs
  | _, _, .nil, _ => .nil
  | _, _, .cons h t, q => by
    rw [List.all_cons, Bool.and_eq_true] at q
    exact .cons ⟨h.1, h.2.cut nd q.1⟩ (VRf_cut nd t q.2)
theorem belows_ints (n : Nat) : ∀ ks : List Int, belows n (ks.map D.int) = true
  | [] => rfl
  | _ :: ks => by
    show (D.bel _ _ && belows _ _) = true
    rw [belows_ints n ks]
    rfl
theorem VRt_cut {n : Nat} {x : List Addr} (nd : am.ad.Nodup) : ∀ {fs : List (List Int × D)} {vs : List (List Int × Addr × Addr)}, VRt K am H fs vs → (fs.all fun p => p.2.bel n) = true → VRt K (am.cut n x nd) H fs vs
  | _, _, .nil, _ => .nil
  | _, _, .cons h t, q => by
    rw [List.all_cons, Bool.and_eq_true] at q
    exact .cons ⟨h.1, h.2.1.cut nd (belows_ints n _), h.2.2.cut nd q.1⟩ (VRt_cut nd t q.2)
theorem OR.cut {n : Nat} {x : List Addr} (nd : am.ad.Nodup) {a : Addr} {o : DO} (h : OR K cl am H a o) (q : o.bel n = true) : OR K cl (am.cut n x nd) H a o := by
  cases o with
  | lst xs => obtain ⟨vs, h1, h⟩ := h; exact ⟨vs, h1, h.cut nd q⟩
  | dct xs => obtain ⟨vs, h1, h⟩ := h; exact ⟨vs, h1, h.cut nd q⟩
  | ins c fs =>
    obtain ⟨dx, vs, h1, h⟩ := h
    exact ⟨dx, vs, h1, VRf_cut nd h q⟩
  | fdc _ _ xs => exact ⟨h.1, h.2.cut nd q⟩
  | tdc xs => obtain ⟨vs, h1, h⟩ := h; exact ⟨vs, h1, VRt_cut nd h q⟩
theorem Grow.cut {x : List Addr} (g : Grow am am' H H') (rs : RelS K cl am S H) (nd : am'.ad.Nodup) : Grow am (am'.cut S.length x nd) H H' := by
  obtain ⟨r, e⟩ := g.pre
  have et : am'.ad.take S.length = am.ad := by rw [e, ← rs.len, List.take_left]
  refine ⟨⟨[], by show am'.ad.take S.length = _; rw [et, List.append_nil]⟩, fun b hb nb => ?_, fun b hb nb => g.freshNo b (List.mem_filter.mp hb).1 nb, fun b hb => List.mem_filter.mpr ⟨g.noK b hb, decide_eq_true (.inl fun z => ?_)⟩, g.keep⟩
  · have hb : b ∈ am'.ad.take S.length := hb
    rw [et] at hb
    exact absurd hb nb
  · have q : (am'.ad.take S.length ++ am'.ad.drop S.length).Nodup := by rw [List.take_append_drop]; exact nd
    have nb : b ∉ am.ad := fun w => (List.nodup_append.mp q).2.2 b (by rw [et]; exact w) b z rfl
    obtain ⟨o, eo⟩ := rs.there b hb
    have := g.fresh b (List.mem_of_mem_drop z) nb
    rw [eo] at this; cases this
theorem RelS.cut {x : List Addr} (g : Grow am am' H H') (rs : RelS K cl am S H) (rs' : RelS K cl am' S' H') (hc : Clo S S') : RelS K cl (am'.cut S.length x rs'.nd) (S'.take S.length) H' := by
  refine ⟨?_, rs'.nd.sublist (List.take_sublist _ _), fun k o a h1 h2 => ?_, fun a ha => rs'.there a (List.mem_filter.mp ha).1⟩
  · show (am'.ad.take S.length).length = _
    rw [List.length_take, List.length_take, rs'.len]
  · have hk : k < S.length := by
      have := (List.getElem?_eq_some_iff.mp h1).1
      rw [List.length_take] at this
      omega
    rw [List.getElem?_take_of_lt hk] at h1
    have h2 : (am'.ad.take S.length)[k]? = some a := h2
    rw [List.getElem?_take_of_lt hk] at h2
    refine (rs'.ob k o a h1 h2).cut rs'.nd ?_
    rcases hc.2 k o hk h1 with q | q
    · obtain ⟨b, hb, ho⟩ := rs.has q
      have := ho.bel
      rw [rs.len] at this
      exact this
    · exact q
theorem allSome_VRs {am1 : AM} {f : D → Option D} (hf : ∀ d v d', VR K am H d v → f d = some d' → VR K am1 H d' v) : ∀ {xs : List D} {vs : List V} {ys : List D}, VRs K am H xs vs → allSome (xs.map f) = some ys → VRs K am1 H ys vs
  | _, _, _, .nil, h => by cases h; exact .nil
  | _, _, ys, .cons (d := d) (ds := ds) h t, q => by
    rw [List.map_cons] at q
    cases e : f d with
    | none => rw [e] at q; cases q
    | some d' =>
      rw [e] at q
      simp only [allSome] at q
      cases e2 : allSome (ds.map f) with
      | none => rw [e2] at q; cases q
      | some ys' =>
        rw [e2] at q
        cases q
        exact .cons (hf _ _ _ h e) (allSome_VRs hf t e2)
theorem allSome_VRk {am1 : AM} {f : D → Option D} (hf : ∀ d v d', VR K am H d v → f d = some d' → VR K am1 H d' v) : ∀ {xs : List (Key × D)} {vs : List (Key × V)} {ys : List (Key × D)}, VRk K am H xs vs → allSome (xs.map fun p => (f p.2).map fun y => (p.1, y)) = some ys → VRk K am1 H ys vs
  | _, _, _, .nil, h => by cases h; exact .nil
  | _, _, ys, .cons (k := k) (d := d) (ds := ds) h t, q => by
    rw [List.map_cons] at q
    cases e : f d with
    | none => simp only [e] at q; cases q
    | some d' =>
      simp only [e, Option.map_some, allSome] at q
      cases e2 : allSome (ds.map fun p => (f p.2).map fun y => (p.1, y)) with
      | none => rw [e2] at q; cases q
      | some ys' =>
        rw [e2] at q
        cases q
        exact .cons (hf _ _ _ h e) (allSome_VRk hf t e2)
theorem VR.frz {n : Nat} (rs : RelS K cl am S H) : ∀ (f : Nat) (d : D) (v : V) (d' : D), VR K am H d v → frzV n S f d = some d' → VR K (am.cut n [] rs.nd) H d' v
  | 0, d, v, d', h, q => by
    unfold frzV at q
    by_cases hb : d.bel n = true
    · rw [if_pos hb] at q
      cases q
      exact h.cut rs.nd hb
    · rw [if_neg hb] at q
      cases q
  | f + 1, d, v, d', h, q => by
    unfold frzV at q
    by_cases hb : d.bel n = true
    · rw [if_pos hb] at q
      cases q
      exact h.cut rs.nd hb
    · rw [if_neg hb] at q
      have ih := VR.frz (n := n) rs f
      cases h with
      | @ref k a h1 =>
        simp only at q
        have hk : ¬ k < n := fun z => hb (decide_eq_true z)
        have na : a ∉ (am.cut n [] rs.nd).no := fun z => by
          rcases of_decide_eq_true (List.mem_filter.mp z).2 with z | z
          · refine z ?_
            obtain ⟨hl, e⟩ := List.getElem?_eq_some_iff.mp h1
            rw [List.mem_drop_iff_getElem]
            exact ⟨k - n, by omega, by simp only [show n + (k - n) = k by omega]; exact e⟩
          · cases z
        cases e : S[k]? with
        | none => rw [e] at q; cases q
        | some o =>
          rw [e] at q
          cases o with
          | lst xs =>
            obtain ⟨vs, h2, h3⟩ := rs.ob k _ a e h1
            simp only at q
            cases e2 : allSome (xs.map (frzV n S f)) with
            | none => rw [e2] at q; cases q
            | some ys =>
              rw [e2] at q
              cases q
              exact .lst h2 na (allSome_VRs ih h3 e2)
          | dct xs =>
            obtain ⟨vs, h2, h3⟩ := rs.ob k _ a e h1
            simp only at q
            cases e2 : allSome (xs.map fun p => (frzV n S f p.2).map fun y => (p.1, y)) with
            | none => rw [e2] at q; cases q
            | some ys =>
              rw [e2] at q
              cases q
              exact .dct h2 na (allSome_VRk ih h3 e2)
          | ins c fs => cases q
          | fdc _ _ _ => cases q
          | tdc _ => cases q
      | @tup a vs xs h1 h3 =>
        simp only at q
        cases e2 : allSome (xs.map (frzV n S f)) with
        | none => rw [e2] at q; cases q
        | some ys =>
          rw [e2] at q
          cases q
          exact .tup (by
            rcases h1 with ⟨o, h1, d1, n1⟩ | h1
            · exact .inl ⟨o, h1, d1, cut_not n1⟩
            · exact .inr h1) (allSome_VRs ih h3 e2)
      | @lst a vs xs h1 n1 h3 =>
        simp only at q
        cases e2 : allSome (xs.map (frzV n S f)) with
        | none => rw [e2] at q; cases q
        | some ys =>
          rw [e2] at q
          cases q
          exact .lst h1 (cut_not n1) (allSome_VRs ih h3 e2)
      | @dct a vs xs h1 n1 h3 =>
        simp only at q
        cases e2 : allSome (xs.map fun p => (frzV n S f p.2).map fun y => (p.1, y)) with
        | none => rw [e2] at q; cases q
        | some ys =>
          rw [e2] at q
          cases q
          exact .dct h1 (cut_not n1) (allSome_VRk ih h3 e2)
      | _ => cases q
/-- what is handed back is what is promised -/
theorem fin_ok {m : Md} {d : D} {v : V} {Q : VK} (rs : RelS K cl am S H) (p : Post K cl W σ (VR K) am H (fin m S d S') Q) (g : Grow am am' H H') (rs' : RelS K cl am' S' H') (rv : VR K am' H' d v) : Q v H' := by
  cases m with
  | keep => exact p am' v H' g rs' rv
  | frz =>
    simp only [fin] at p
    by_cases hc : Clo S S'
    · rw [if_pos hc] at p
      cases e : frzV S.length S' 6 d with
      | none => rw [e] at p; exact p.elim
      | some d' =>
        rw [e] at p
        exact p _ v H' (g.cut (x := []) rs rs'.nd) (RelS.cut g rs rs' hc) (VR.frz rs' 6 d v d' rv e)
    · rw [if_neg hc] at p
      exact p.elim
  | new =>
    cases rv with
    | @ref k a h1 =>
      simp only [fin] at p
      by_cases hc : Clo S S' ∧ S.length ≤ k
      · rw [if_pos hc] at p
        cases e : S'[k]? with
        | none => rw [e] at p; exact p.elim
        | some o =>
          rw [e] at p
          simp only at p
          by_cases hb : o.bel S.length = true
          · rw [if_pos hb] at p
            -- the object at a comes along, at its new number
            have hm : a ∈ am'.ad := List.mem_of_getElem? h1
            have na : a ∉ am.ad := fun z => by
              obtain ⟨r, er⟩ := g.pre
              obtain ⟨j, hj, ej⟩ := List.mem_iff_getElem.mp z
              have h2 : am'.ad[j]? = some a := by rw [er, List.getElem?_append_left hj, List.getElem?_eq_getElem hj, ej]
              have := nd_ix rs'.nd h1 h2
              rw [rs.len] at hj
              omega
            have hH : H a = none := g.fresh a hm na
            have gc : Grow am (am'.cut S.length [a] rs'.nd) H H' := g.cut rs rs'.nd
            have rc : RelS K cl (am'.cut S.length [a] rs'.nd) (S'.take S.length) H' := RelS.cut g rs rs' hc.1
            have hno : a ∈ (am'.cut S.length [a] rs'.nd).no := List.mem_filter.mpr ⟨am'.sub a hm, decide_eq_true (.inr (by simp))⟩
            have had : a ∉ (am'.cut S.length [a] rs'.nd).ad := fun z => na (by
              obtain ⟨r, er⟩ := g.pre
              have z : a ∈ am'.ad.take S.length := z
              rw [er, ← rs.len, List.take_left] at z
              exact z)
            have ho := (rs'.ob k o a e h1).cut (x := [a]) rs'.nd hb
            refine p _ (.ref a) H' (gc.push hno hH) (rc.push hno had ho) (.ref ?_)
            show ((am'.cut S.length [a] rs'.nd).ad ++ [a])[S.length]? = some a
            have hl : (am'.cut S.length [a] rs'.nd).ad.length = S.length := by
              rw [rc.len, List.length_take]
              have := hc.1.1
              omega
            rw [List.getElem?_append_right (by rw [hl]; exact Nat.le_refl _), hl, Nat.sub_self]
            rfl
          · rw [if_neg hb] at p
            exact p.elim
      · rw [if_neg hc] at p
        exact p.elim
    | _ => exact p.elim
end
end Pu
set_option Elab.async false
set_option linter.all false
set_option maxRecDepth 100000
namespace Pu
open PySem PySem.Spec PyProof.Rows L2
noncomputable def SpD (K : PySem.W.Frag) (cl : Str → Addr) (n : Nat) (F : List D → Sto → Res D) : Sp := fun vs H Q E =>
  ∃ am ds S, ds.length = n ∧ RelS K cl am S H ∧ VRs K am H ds vs ∧ Post K cl (fun c d _ H => E c d H) [] (VR K) am H (F ds S) Q
/-- a def of the text stands where its name says -/
structure DefIn (K : PySem.W.Frag) (mg : Str → Option Value) (x : Str) (st : Stmt) (ps : List Str) : Prop where
  ex : ∃ f fd, Fun K x x st f fd ∧ mg x = some (.ref f) ∧ ∀ us : List Value, us.length = ps.length → bindArgs fd ⟨us, []⟩ = pure (ps.zip us)
structure DefOk (P : Program) (w : World) (K : PySem.W.Frag) (mg : Str → Option Value) (base : Heap) (cl : Str → Addr) (x : Str) (k : Nat) (ps : List Str) (F : List D → Sto → Res D) : Prop where
  ex : ∃ f fd, FnOk P w K mg base (L2N.CX P w) k f fd ps (SpD K cl ps.length F) ∧ mg x = some (.ref f) ∧ PySem.W.keepIn K (.ref f) = true ∧ (∀ us : List Value, us.length = ps.length → bindArgs fd ⟨us, []⟩ = pure (ps.zip us)) ∧
    ∃ (oc : Value) (od : Option Addr) (osl : Array (Option Value)), K.lookup f = some ⟨oc, od, .func fd, osl⟩
section
variable {P : Program} {w : World} {K : PySem.W.Frag} {mg : Str → Option Value} {base : Heap} {cl : Str → Addr}
theorem DefOk.mono {x : Str} {k j : Nat} {ps : List Str} {F : List D → Sto → Res D} (d : DefOk P w K mg base cl x k ps F) (h : k ≤ j) : DefOk P w K mg base cl x j ps F :=
  let ⟨f, fd, a, b⟩ := d.ex
  ⟨f, fd, a.mono h, b⟩
theorem startE_rel {am : AM} {H : Hp} {ds : List D} {vs : List V} {N : List Str} (h : VRs K am H ds vs) : RelE K am H (startE N.length ds) (L2.start N vs) := by
  refine ⟨?_, fun i d hd => ?_⟩
  · unfold startE L2.start
    simp [h.length]
  · unfold startE at hd
    unfold L2.start
    by_cases hi : i < ds.length
    · rw [List.getElem?_append_left (by simpa using hi), List.getElem?_map] at hd
      cases e : ds[i]? with
      | none => rw [e] at hd; cases hd
      | some z =>
        rw [e] at hd
        cases hd
        obtain ⟨v, hv, rv⟩ := h.get e
        refine ⟨v, ?_, rv⟩
        rw [List.getElem?_append_left (by rw [List.length_map, ← h.length]; exact hi), List.getElem?_map, hv]
        rfl
    · rw [List.getElem?_append_right (by simpa using hi), List.getElem?_replicate] at hd
      split at hd <;> cases hd
theorem qf_mk {k : Nat} {N ps : List Str} {st : Stmt} {x qual : Str} {f : Addr} {fd : FuncData} {m : Md} {body : Stm} (Fn : Fun K x qual st f fd) (Sc : FnScope N ps (defScope st))
    (hb : ∀ (cdv : Value) (A : Around) (outer : List PySem.Env) (s : Shared) (H : Hp) (E : XK), Room k (A.deeper (envOfC qual (defScope st) s.heap.objs.size f cdv)) →
      QB cl (fun c d _ H => E c d H) (cxOf (L2N.CX P w) P w K mg base N qual (defScope st) f cdv A outer s H E) (defBody st) body) :
    FnOk P w K mg base (L2N.CX P w) (k + 1) f fd ps (SpD K cl ps.length (runD m N.length body)) := by
  obtain ⟨oc, od, kV, doc, pm, an, cdv, ct, osl, rfl, lk, hcd⟩ := Fn.ex
  refine fn_of lk hcd Sc (fun vs H Q E h => ?_) (fun A outer s H vs Q E hr h => ⟨_, hb cdv A outer s H E hr, ?_⟩)
  · obtain ⟨am, ds, S, hl, _, hv, _⟩ := h
    rw [← hv.length, hl]
  · obtain ⟨am, ds, S, hl, rs, hv, p⟩ := h
    refine ⟨am, startE N.length ds, S, rs, startE_rel hv, ?_⟩
    unfold runD at p
    cases q : body (startE N.length ds) S with
    | next e S' =>
      rw [q] at p
      exact fun am' σ H' g rs' re' => fin_ok rs p g rs' .non
    | ret d S' =>
      rw [q] at p
      exact fun am' v H' g rs' rv => fin_ok rs p g rs' rv
    | brk e S' => rw [q] at p; exact p.elim
    | cnt e S' => rw [q] at p; exact p.elim
    | exc c e S' =>
      rw [q] at p
      intro am' σ H' g rs' re'
      have other : m ≠ .keep → Post K cl (fun c d _ H => E c d H) [] (VR K) am H (if Clo S S' then (.exc c (S'.take S.length) : Res D) else .bad) Q → E (.ref (cl c)) none H' := fun _ p => by
        by_cases hc : Clo S S'
        · rw [if_pos hc] at p
          exact p _ H' (g.cut (x := []) rs rs'.nd) (RelS.cut g rs rs' hc)
        · rw [if_neg hc] at p
          exact p.elim
      cases m with
      | keep => exact p am' H' g rs'
      | frz => exact other (fun z => nomatch z) p
      | new => exact other (fun z => nomatch z) p
    | bad => rw [q] at p; exact p.elim
theorem def_ok {k : Nat} {N ps : List Str} {st : Stmt} {x : Str} {m : Md} {body : Stm} (I : DefIn K mg x st ps) (Sc : FnScope N ps (defScope st))
    (hb : ∀ (f : Addr) (cdv : Value) (A : Around) (outer : List PySem.Env) (s : Shared) (H : Hp) (E : XK), Room k (A.deeper (envOfC x (defScope st) s.heap.objs.size f cdv)) →
      QB cl (fun c d _ H => E c d H) (cxOf (L2N.CX P w) P w K mg base N x (defScope st) f cdv A outer s H E) (defBody st) body) :
    DefOk P w K mg base cl x (k + 1) ps (runD m N.length body) := by
  obtain ⟨f, fd, Fn, hm, hbd⟩ := I.ex
  obtain ⟨oc, od, kV, doc, pm, an, cdv, ct, osl, e, lk, hcd⟩ := Fn.ex
  exact ⟨f, fd, qf_mk Fn Sc (hb f), hm, Fn.kp, hbd, oc, od, osl, lk⟩
/-- the law's own def, for the end -/
theorem law_fn {k : Nat} {x : Str} {F : List D → Sto → Res D} {st : Stmt} {ps : List Str} {fa : Addr} (I : DefIn K mg x st ps) (hfa : mg x = some (.ref fa)) : ∃ fd : FuncData, (∀ us : List Value, us.length = ps.length → bindArgs fd ⟨us, []⟩ = pure (ps.zip us)) ∧
    ∀ base : Heap, DefOk P w K mg base cl x k ps F → FnOk P w K mg base (L2N.CX P w) k fa fd ps (SpD K cl ps.length F) := by
  obtain ⟨f, fd, Fn, hm, hbd⟩ := I.ex
  obtain ⟨oc, od, kV, doc, pm, an, cdv, ct, osl, e, lk, hcd⟩ := Fn.ex
  cases hfa.symm.trans hm
  refine ⟨fd, hbd, fun base G => ?_⟩
  obtain ⟨f2, fd2, Fk, hm2, _, _, oc2, od2, osl2, lk2⟩ := G.ex
  cases hfa.symm.trans hm2
  rw [lk] at lk2
  cases lk2
  exact Fk
theorem defIn_mk {h : Heap} {x : Str} {st : Stmt} {ps : List Str} {f : Addr} {oc : Value} {od an : Option Addr} {osl : Array (Option Value)} {kV doc pm cdv ct : Value} (X : K.In h) (G : h.Ns mainGlobals mg)
    (a : PySem.W.nsIn K mainGlobals x = some (some (.ref f))) (l : K.lookup f = some ⟨oc, od, .func (PySem.W.fnOf x x (defArgs st) (defBody st) (defScope st) .none kV doc pm an cdv ct), osl⟩) (c : PySem.W.codeIn K cdv x = true) (k : PySem.W.keepIn K (.ref f) = true)
    (hb : ∀ (kV doc pm : Value) (an : Option Addr) (cdv ct : Value) (us : List Value), us.length = ps.length → bindArgs (PySem.W.fnOf x x (defArgs st) (defBody st) (defScope st) .none kV doc pm an cdv ct) ⟨us, []⟩ = pure (ps.zip us)) : DefIn K mg x st ps :=
  ⟨f, _, fun_mk l c k, PySem.W.mg_of X G a, hb kV doc pm an cdv ct⟩
end
noncomputable def eFn (F : List D → Sto → Res D) (fs : List (Ev D)) : Ev D := fun e S => (eArgs fs e S).bind F
section
variable {cl : Str → Addr} {W : WX} {X : Cx} {a b c : Expr} {es : List Expr} {f g h : Ev D} {fs : List (Ev D)} {pos p : Pos} {x : Str}
theorem qe_fn {k : Nat} {ps : List Str} {F : List D → Sto → Res D} (G : DefOk X.prog X.w X.K X.mg X.base cl x k ps F) (hr : Room k X.A) (hg : Gl X x) (tk : L2N.Takes X W) (ha : QA cl W X (a :: es) (eArgs fs)) (hn : fs.length = ps.length := by rfl) (hdb : (x == ("__debug__" : Str)) = false := by decide)
    (he : starEach (a :: es) X.env = (false, eval a X.env) :: starEach es X.env := by rfl) (hpl : (backTo pos (starEach es X.env)).any (·.1) = false := by rfl) : QE cl W X (.Call (.Name x p) (a :: es) [] pos) (eFn F fs) := by
  obtain ⟨ff, fd, Fk, hm, hk, hbd, _⟩ := G.ex
  refine (pe_callS Fk hr hg hm hk (.all hbd) (fun σ => L2N.passAt tk σ) ha hdb he hpl).imp fun σ H Q ⟨am, e, S, rs, re, p⟩ => ?_
  exact ⟨am, e, S, rs, re, (Post.step p).imp fun xs H1 ⟨am1, S1, ds, ee, g1, rs1, rvs, p1⟩ => ⟨am1, ds, S1, by rw [eArgs_len ee, hn], rs1, rvs, p1⟩⟩
end
noncomputable def keyOf : D → Option Key
  | .int i => some (.inl i)
  | .str x => some (.inr x)
  | _ => none
noncomputable def getK (kvs : List (Key × D)) (k : Key) : Option D := (kvs.find? fun kv => decide (kv.1 = k)).map (·.2)
noncomputable def putD (kvs : List (Key × D)) (k : Key) (v : D) : List (Key × D) := if (kvs.any fun kv => decide (kv.1 = k)) = true then kvs.map (fun kv => if kv.1 = k then (kv.1, v) else kv) else kvs ++ [(k, v)]
/-- o[i]: of a list, a tuple, a text, a dict -/
noncomputable def ixD (d i : D) (S : Sto) : Res D := match dcOf S d with
  | some kvs => match keyOf i with
    | some k => opt (getK kvs k) S
    | none => .bad
  | none => match i with
    | .int j => match d with
      | .str x => if x.length ≤ sizeLine then opt ((atI x.cps.toList j).map fun c => .str ⟨#[c]⟩) S else .bad
      | d => match sqOf S d with
        | some xs => opt (atI xs j) S
        | none => .bad
    | _ => .bad
section
variable {K : PySem.W.Frag} {cl : Str → Addr} {am : AM} {H : Hp} {S : Sto}
theorem keyOf_ok {d : D} {v : V} {k : Key} (h : VR K am H d v) (e : keyOf d = some k) : v = kV k := by
  cases h with
  | int i => cases e; rfl
  | str x => cases e; rfl
  | _ => cases e
theorem VRk.get : ∀ {ds : List (Key × D)} {vs : List (Key × V)} (k : Key), VRk K am H ds vs → (getK ds k = none ∧ valV vs k = none) ∨ ∃ d v, getK ds k = some d ∧ valV vs k = some v ∧ VR K am H d v
  | _, _, k, .nil => .inl ⟨rfl, rfl⟩
  | _, _, k, .cons (k := k') (d := d) (v := v) h t => by
    by_cases e : k' = k
    · subst e
      exact .inr ⟨d, v, by simp [getK], by simp [valV], h⟩
    · have ih := VRk.get k t
      unfold getK valV at ih ⊢
      rw [List.find?_cons_of_neg (by simpa using e), List.find?_cons_of_neg (by simpa using e)]
      exact ih
theorem VRk.any {ds : List (Key × D)} {vs : List (Key × V)} (k : Key) (h : VRk K am H ds vs) : (ds.any fun kv => decide (kv.1 = k)) = (vs.any fun kv => decide (kv.1 = k)) := by
  induction ds generalizing vs with
  | nil => cases h; rfl
  | cons p ds ih =>
    cases h with
    | cons h t => rw [List.any_cons, List.any_cons, ih t]
theorem VRk.map {ds : List (Key × D)} {vs : List (Key × V)} (k : Key) {d : D} {v : V} (hv : VR K am H d v) : VRk K am H ds vs → VRk K am H (ds.map fun kv => if kv.1 = k then (kv.1, d) else kv) (vs.map fun kv => if kv.1 = k then (kv.1, v) else kv) := fun h => by
  induction ds generalizing vs with
  | nil => cases h; exact .nil
  | cons p ds ih =>
    cases h with
    | @cons k' d' v' ds vs h t =>
      rw [List.map_cons, List.map_cons]
      by_cases e : k' = k
      · simp only [e, if_true]
        exact .cons hv (ih t)
      · simp only [if_neg e]
        exact .cons h (ih t)
theorem VRk.append : ∀ {ds es : List (Key × D)} {vs us : List (Key × V)}, VRk K am H ds vs → VRk K am H es us → VRk K am H (ds ++ es) (vs ++ us)
  | _, _, _, _, .nil, h => h
  | _, _, _, _, .cons h t, h' => .cons h (VRk.append t h')
theorem VRk.put {ds : List (Key × D)} {vs : List (Key × V)} (k : Key) {d : D} {v : V} (h : VRk K am H ds vs) (hv : VR K am H d v) : VRk K am H (putD ds k d) (putK vs k v) := by
  unfold putD putK
  rw [h.any k]
  by_cases e : (vs.any fun kv => decide (kv.1 = k)) = true
  · rw [if_pos e, if_pos e]
    exact h.map k hv
  · rw [if_neg e, if_neg e]
    exact h.append (.cons hv .nil)
theorem VRk.length : ∀ {ds : List (Key × D)} {vs : List (Key × V)}, VRk K am H ds vs → ds.length = vs.length
  | _, _, .nil => rfl
  | _, _, .cons _ t => by rw [List.length_cons, List.length_cons, VRk.length t]
theorem atI_some {ds : List D} {vs : List V} {j : Int} {d : D} (h : VRs K am H ds vs) (e : atI ds j = some d) : ∃ v, atI vs j = some v ∧ VR K am H d v := by
  unfold atI at e ⊢
  rw [← h.length]
  cases q : ixN ds.length j with
  | none => rw [q] at e; cases e
  | some n => rw [q] at e; exact h.get e
end
section
variable {cl : Str → Addr} {W : WX} {X : Cx} {a b c : Expr} {es : List Expr} {f g h : Ev D} {fs : List (Ev D)} {pos p : Pos} {x : Str}
noncomputable def rKey : R2 := fun x y H Q => ∃ a v, x = .ref a ∧ DGet H a y (some v) ∧ Q v H
theorem ix_key (hu : X.A.units + 1 < cLine) : IxR X rKey := by
  intro value slice pins s σ H x y v u Q I rx ry h hs
  obtain ⟨a, vv, rfl, g, q⟩ := h
  cases rx
  have hT := dict_typeIs I g
  unfold subscriptTail
  refine wpAny_bind ?_
  rw [getitemInPython_of_ne hT.not_modules]
  refine wpAny_bind (wpAny_specialOf hT PySem.F.slot_dict_getitem.lookup ?_)
  have fin : wpAny (model X.prog X.w) X.A (subscripted slice false (.ref a) u) (fun r s₃ => wpAny (model X.prog X.w) X.A (letTemporaryGo value (.ref a) r >>= fun _ => pure r) (EP X pins σ Q) X.xe s₃) X.xe s := by
    rw [hs]
    exact wpAny_operating (wpAny_mono (d_getItem hu I g ry fun w' s' I' rw' => (⟨vv, H, I', rw', q⟩ : EP X pins σ Q w' s')) (fun r s₃ h₃ => wpAny_bind (wpAny_letTemporaryGo (wpAny_pure h₃))) fun _ _ x => x)
  first
    | exact wpAny_pure (wpAny_bind fin)
    | exact wpAny_bind (wpAny_pure (wpAny_bind fin))
    | exact wpAny_bind fin
theorem qe_ix {k : Nat} (hr : Room k X.A) (ha : QE cl W X a f) (hb : QE cl W X b g) (hs : PlainIx b := by intro _ _; rfl) : QE cl W X (.Subscript a b pos) (e2 ixD f g) :=
  (pe_ix (ix_seq.or (ix_key (hu_of hr))) ha hb hs).imp (imp_2 fun W σ am S H d e v u Q rs h1 h2 p => by
    unfold ixD at p
    cases q : dcOf S d with
    | some kvs =>
      rw [q] at p
      obtain ⟨a, vs, ev, r1, hk⟩ := dcOf_ok rs h1 q
      simp only at p
      cases q2 : keyOf e with
      | none => rw [q2] at p; exact p.elim
      | some k =>
        rw [q2] at p
        simp only at p
        have eu := keyOf_ok h2 q2
        rcases hk.get k with ⟨g1, g2⟩ | ⟨d', v', g1, g2, rv⟩
        · rw [g1] at p; exact p.elim
        · rw [g1] at p
          refine .inr ⟨a, v', ev, .inl ⟨vs, k, .inl r1, eu, g2.symm⟩, p am v' H .refl rs rv⟩
    | none =>
      rw [q] at p
      simp only at p
      cases h2 with
      | int j =>
        have seq : Post X.K cl W σ (VR X.K) am H (match sqOf S d with | some xs => opt (atI xs j) S | none => .bad) Q → rIxL X.K v (.int j) H Q ∨ rIxT X.K v (.int j) H Q ∨ rIxS v (.int j) H Q := fun p => by
          cases q3 : sqOf S d with
          | none => rw [q3] at p; exact p.elim
          | some xs =>
            rw [q3] at p
            simp only at p
            obtain ⟨a, vs, ev, hq, hs⟩ := sqOf_ok rs h1 q3
            cases q4 : atI xs j with
            | none => rw [q4] at p; exact p.elim
            | some d' =>
              rw [q4] at p
              obtain ⟨v', hv', rv⟩ := atI_some hs q4
              have := p am v' H .refl rs rv
              rcases hq with hq | hq
              · exact .inl ⟨a, vs, j, v', ev, rfl, hq, hv', this⟩
              · exact .inr (.inl ⟨a, vs, j, v', ev, rfl, hq, hv', this⟩)
        refine .inl ?_
        cases h1 with
        | str x =>
          simp only at p
          by_cases hz : x.length ≤ sizeLine
          · rw [if_pos hz] at p
            cases q4 : atI x.cps.toList j with
            | none => rw [q4] at p; exact p.elim
            | some c =>
              rw [q4] at p
              exact .inr (.inr ⟨x, j, c, rfl, rfl, hz, q4, p am _ H .refl rs (.str _)⟩)
          · rw [if_neg hz] at p
            exact p.elim
        | _ => exact seq p
      | _ => exact p.elim)
noncomputable def QP (cl : Str → Addr) (W : WX) (X : Cx) (e : Option Expr) (f : Ev (Option Int)) : Prop := PO X e (TD X.K cl W (fun _ _ a b => a = b) f)
theorem _root_.L2.PO.imp {X : Cx} {e : Option Expr} {t t' : TO} (h : PO X e t) (i : ∀ σ H Q, t' σ H Q → t σ H Q) : PO X e t' := ⟨fun pins s σ H Q I q => h.run pins s σ H Q I (i σ H Q q)⟩
noncomputable def pN : Ev (Option Int) := fun _ S => .ok none S
noncomputable def pE (f : Ev D) : Ev (Option Int) := fun e S => (f e S).bind fun d S => match d with
  | .int i => .ok (some i) S
  | _ => .bad
theorem qp_n : QP cl W X none pN := po_none.imp fun σ H Q ⟨am, e, S, rs, re, p⟩ => p am none H .refl rs rfl
theorem qp_e (ha : QE cl W X a f) : QP cl W X (some a) (pE f) := (po_some ha).imp fun σ H Q ⟨am, e, S, rs, re, p⟩ =>
  ⟨am, e, S, rs, re, (Post.step p).imp fun x H1 ⟨am1, S1, d, _, g1, rs1, rv, p1⟩ => by
    cases rv with
    | int i => exact ⟨i, rfl, p1 am1 _ H1 .refl rs1 rfl⟩
    | _ => exact p1.elim⟩
noncomputable def cutL {α : Type} (xs : List α) (lo hi : Option Int) : List α := (xs.drop (HT.sIx xs.length 0 lo)).take (HT.sIx xs.length xs.length hi - HT.sIx xs.length 0 lo)
noncomputable def slD (d : D) (lo hi : Option Int) (S : Sto) : Res D := match d with
  | .str x => if x.length ≤ sizeLine then .ok (.str (cutS x lo hi)) S else .bad
  | .tup xs => .ok (.tup (cutL xs lo hi)) S
  | d => match lsOf S d with
    | some xs => .ok (.lst (cutL xs lo hi)) S
    | none => .bad
noncomputable def eSl (f : Ev D) (p q : Ev (Option Int)) : Ev D := fun e S => (f e S).bind fun d S => (p e S).bind fun lo S => (q e S).bind fun hi S => slD d lo hi S
theorem VRs.cutL {K : PySem.W.Frag} {am : AM} {H : Hp} {ds : List D} {vs : List V} (h : VRs K am H ds vs) (lo hi : Option Int) : VRs K am H (cutL ds lo hi) (cutV vs lo hi) := by
  unfold Pu.cutL cutV
  rw [← h.length]
  exact (h.drop _).take _
theorem cutL_all {α : Type} {xs : List α} {lo hi : Option Int} (h : HT.sIx xs.length 0 lo = 0 ∧ HT.sIx xs.length xs.length hi = xs.length) : cutL xs lo hi = xs := by
  unfold cutL
  rw [h.1, h.2]
  simp
theorem qe_sl {lo hi : Option Expr} {p2 : Pos} {p q : Ev (Option Int)} (ha : QE cl W X a f) (hl : QP cl W X lo p) (hh : QP cl W X hi q) : QE cl W X (.Subscript a (.Slice lo hi none p2) pos) (eSl f p q) :=
  (pe_slice (SlR.or sl_str (SlR.or sl_tupF sl_list)) ha hl hh).imp fun σ H Q ⟨am, e, S, rs, re, p⟩ =>
    ⟨am, e, S, rs, re, (Post.step p).imp fun x H1 ⟨am1, S1, d, _, g1, rs1, rv, p1⟩ =>
      ⟨am1, e, S1, rs1, re.mono g1, (Post.step p1).imp fun l H2 ⟨am2, S2, l', _, g2, rs2, rl, p2⟩ =>
        ⟨am2, e, S2, rs2, (re.mono g1).mono g2, (Post.step p2).imp fun u H3 ⟨am3, S3, u', _, g3, rs3, ru, p3⟩ => by
          have rl : l' = l := rl
          have ru : u' = u := ru
          subst rl ru
          have rv3 := (rv.mono g2).mono g3
          have ls : Post X.K cl W σ (VR X.K) am3 H3 (match lsOf S3 d with | some xs => .ok (.lst (cutL xs l' u')) S3 | none => .bad) Q → rSlL X.K x l' u' H3 Q := fun p => by
            cases q : lsOf S3 d with
            | none => rw [q] at p; exact p.elim
            | some xs =>
              rw [q] at p
              obtain ⟨a, vs, ev, r1, hs⟩ := lsOf_ok rs3 rv3 q
              exact ⟨a, vs, ev, r1, fun q hq => p am3 _ _ (Grow.upd hq) (rs3.upd hq) (VR.lstNew rs3 (hs.cutL l' u') hq)⟩
          cases rv3 with
          | str x =>
            simp only [slD] at p3
            by_cases hz : x.length ≤ sizeLine
            · rw [if_pos hz] at p3
              exact .inl ⟨x, rfl, hz, p3 am3 _ H3 .refl rs3 (.str _)⟩
            · rw [if_neg hz] at p3
              exact p3.elim
          | @tup a vs ds h1 h2 =>
            refine .inr (.inl ⟨a, vs, rfl, h1.seq, fun hw => ?_, fun hw q ob hq hd => ?_⟩)
            · refine p3 am3 _ H3 .refl rs3 ?_
              rw [cutL_all (by rw [h2.length]; exact hw)]
              exact .tup h1 h2
            · exact p3 am3 _ _ (Grow.upd hq) (rs3.upd hq) (VR.tupNew rs3 (h2.cutL l' u') hq hd)
          | lst _ _ _ => exact .inr (.inr (ls p3))
          | fls _ _ => exact .inr (.inr (ls p3))
          | ref _ => exact .inr (.inr (ls p3))
          | _ => exact p3.elim⟩⟩⟩
end
noncomputable def flatD : D → Bool
  | .non => true
  | .bl _ => true
  | .int _ => true
  | .str _ => true
  | _ => false
noncomputable def fEq : D → D → Bool
  | .non, .non => true
  | .bl a, .bl b => a == b
  | .bl a, .int b => (if a then 1 else 0) == b
  | .int a, .bl b => a == (if b then 1 else 0)
  | .int a, .int b => a == b
  | .str a, .str b => a == b
  | _, _ => false
noncomputable def inD (neg : Bool) (d o : D) (S : Sto) : Res D := match dcOf S o with
  | some kvs => match keyOf d with
    | some k => .ok (.bl (if neg = true then !(getK kvs k).isSome else (getK kvs k).isSome)) S
    | none => .bad
  | none => match o with
    | .str y => match d with
      | .str x => .ok (.bl (if neg = true then !(!(Builtin.Str.occurrences y x 0 y.length 1).isEmpty) else !(Builtin.Str.occurrences y x 0 y.length 1).isEmpty)) S
      | _ => .bad
    | .tup xs => if flatD d = true ∧ xs.all flatD = true then .ok (.bl (if neg = true then !(xs.any fun z => fEq z d) else xs.any fun z => fEq z d)) S else .bad
    | o => match lsOf S o with
      | some xs => if SeqAt.shaped d.py = true ∧ SeqAt.shaped (.list (pys xs)) = true then .ok (.bl (if neg = true then !((pys xs).any fun z => PyData.eqv z d.py) else (pys xs).any fun z => PyData.eqv z d.py)) S else .bad
      | none => .bad
section
variable {K : PySem.W.Frag} {cl : Str → Addr} {am : AM} {H : Hp} {S : Sto}
theorem flat_ok {d : D} {v : V} (h : VR K am H d v) (f : flatD d = true) : flatV v = true := by
  cases h <;> first | rfl | cases f
theorem flats_ok : ∀ {ds : List D} {vs : List V}, VRs K am H ds vs → ds.all flatD = true → vs.all flatV = true
  | _, _, .nil, _ => rfl
  | _, _, .cons h t, f => by
    rw [List.all_cons, Bool.and_eq_true] at f
    rw [List.all_cons, flat_ok h f.1, flats_ok t f.2]
    rfl
theorem fEq_ok {d e : D} {v u : V} (h : VR K am H d v) (h' : VR K am H e u) : fEq d e = eqV v u := by
  cases h <;> cases h' <;> rfl
theorem any_ok {d : D} {v : V} (h : VR K am H d v) : ∀ {ds : List D} {vs : List V}, VRs K am H ds vs → (ds.any fun z => fEq z d) = inV v vs
  | _, _, .nil => rfl
  | _, _, .cons h1 t => by
    have ih := any_ok h t
    unfold inV at ih ⊢
    rw [List.any_cons, List.any_cons, ih, fEq_ok h1 h]
theorem lsOf_py (r : RelS K cl am S H) {d : D} {v : V} (h : VR K am H d v) {xs : List D} (e : lsOf S d = some xs) (q : PyData.canLayAll0 (pys xs) = true) : Dp K H v (.list (pys xs)) := by
  obtain ⟨a, vs, ev, r1, hs⟩ := lsOf_ok r h e
  subst ev
  exact .lst r1 (hs.dp q)
end
section
variable {cl : Str → Addr} {W : WX} {X : Cx} {a b c : Expr} {es : List Expr} {f g h : Ev D} {fs : List (Ev D)} {pos p : Pos} {x : Str}
noncomputable def rKeyIn : R2 := fun y x H Q => ∃ a o, x = .ref a ∧ DGet H a y o ∧ Q (.bl o.isSome) H
noncomputable def rKeyNotIn : R2 := fun y x H Q => ∃ a o, x = .ref a ∧ DGet H a y o ∧ Q (.bl (!o.isSome)) H
theorem op_notInK (hu : X.A.units + 1 < cLine) : OpR X (compareOp .NotIn) rKeyNotIn := by
  intro pins s σ H y x v u Q I ry rx h
  obtain ⟨a, o, rfl, g, q⟩ := h
  cases rx
  exact d_notIn hu I g ry fun s3 I3 => ⟨.bl (!o.isSome), H, I3, rfl, q⟩
theorem units65 {k : Nat} {A : Around} (r : Room k A) : A.units + 65 < cLine := by have := r.un; omega
noncomputable def rInA (K : PySem.W.Frag) : R2 := fun x y H Q => rKeyIn x y H Q ∨ (∃ i j, x = .str i ∧ y = .str j ∧ Q (.bl (!(Builtin.Str.occurrences j i 0 j.length 1).isEmpty)) H) ∨ rIn K false x y H Q ∨ rInD K x y H Q
noncomputable def rNotInA (K : PySem.W.Frag) : R2 := fun x y H Q => rKeyNotIn x y H Q ∨ (∃ i j, x = .str i ∧ y = .str j ∧ Q (.bl (!(!(Builtin.Str.occurrences j i 0 j.length 1).isEmpty))) H) ∨ rIn K true x y H Q ∨ rNotInD K x y H Q
theorem op_notInA {k : Nat} (hr : Room k X.A) : OpR X (compareOp .NotIn) (rNotInA X.K) := OpR.or (op_notInK (hu_of hr)) (OpR.or op_notin_str (OpR.or op_notIn_seq (op_notInD (units65 hr))))
theorem ok_in (neg : Bool) : Ok2 X.K cl (fun x y H Q => if neg = true then rNotInA X.K x y H Q else rInA X.K x y H Q) (inD neg) := by
  intro W σ am S H d o v u Q rs h1 h2 p
  unfold inD at p
  cases q : dcOf S o with
  | some kvs =>
    rw [q] at p
    obtain ⟨a, vs, ev, r1, hk⟩ := dcOf_ok rs h2 q
    simp only at p
    cases q2 : keyOf d with
    | none => rw [q2] at p; exact p.elim
    | some k =>
      rw [q2] at p
      have eu := keyOf_ok h1 q2
      have e : (getK kvs k).isSome = (valV vs k).isSome := by
        rcases hk.get k with ⟨g1, g2⟩ | ⟨d', v', g1, g2, rv⟩
        · rw [g1, g2]
          rfl
        · rw [g1, g2]
          rfl
      have p' := p am _ H .refl rs (.bl _)
      rw [e] at p'
      cases neg with
      | true => exact .inl ⟨a, _, ev, .inl ⟨vs, k, .inl r1, eu, rfl⟩, p'⟩
      | false => exact .inl ⟨a, _, ev, .inl ⟨vs, k, .inl r1, eu, rfl⟩, p'⟩
  | none =>
    rw [q] at p
    have ls : Post X.K cl W σ (VR X.K) am H (match lsOf S o with
      | some xs => if SeqAt.shaped d.py = true ∧ SeqAt.shaped (.list (pys xs)) = true then .ok (.bl (if neg = true then !((pys xs).any fun z => PyData.eqv z d.py) else (pys xs).any fun z => PyData.eqv z d.py)) S else .bad
      | none => .bad) Q → if neg = true then rNotInA X.K v u H Q else rInA X.K v u H Q := fun p => by
      cases q3 : lsOf S o with
      | none => rw [q3] at p; exact p.elim
      | some xs =>
        rw [q3] at p
        simp only at p
        by_cases hc : SeqAt.shaped d.py = true ∧ SeqAt.shaped (.list (pys xs)) = true
        · rw [if_pos hc] at p
          have p' := p am _ H .refl rs (.bl _)
          have hd := h1.dp (SeqAt.canLay_of_shaped hc.1)
          have hl := lsOf_py rs h2 q3 (by simpa [PyData.canLay0] using SeqAt.canLay_of_shaped hc.2)
          cases neg with
          | true => exact .inr (.inr (.inr ⟨_, _, hd, hl, hc.1, hc.2, p'⟩))
          | false => exact .inr (.inr (.inr ⟨_, _, hd, hl, hc.1, hc.2, p'⟩))
        · rw [if_neg hc] at p
          exact p.elim
    cases h2 with
    | str y =>
      cases h1 with
      | str x =>
        have p' := p am _ H .refl rs (.bl _)
        cases neg with
        | true => exact .inr (.inl ⟨x, y, rfl, rfl, p'⟩)
        | false => exact .inr (.inl ⟨x, y, rfl, rfl, p'⟩)
      | _ => exact p.elim
    | @tup a vs xs t hs =>
      simp only at p
      by_cases hc : flatD d = true ∧ xs.all flatD = true
      · rw [if_pos hc] at p
        have p' := p am _ H .refl rs (.bl _)
        rw [any_ok h1 hs] at p'
        cases neg with
        | true => exact .inr (.inr (.inl ⟨a, vs, rfl, .inr t.seq, flat_ok h1 hc.1, flats_ok hs hc.2, p'⟩))
        | false => exact .inr (.inr (.inl ⟨a, vs, rfl, .inr t.seq, flat_ok h1 hc.1, flats_ok hs hc.2, p'⟩))
      · rw [if_neg hc] at p
        exact p.elim
    | lst h1 h2 h3 => exact ls p
    | fls h1 h3 => exact ls p
    | ref h1 => exact ls p
    | _ => exact p.elim
theorem qt_notIn {k : Nat} (hr : Room k X.A) (ha : QE cl W X a f) (hb : QE cl W X b g) (hm : behindInMarks .NotIn b = false := by rfl) : QT cl W X (.Compare a [.NotIn] [b] pos) (eTB (e2 (inD true) f g)) := qt_cmp (op_notInA hr) (ok_in true) ha hb hm
end
end Pu
set_option Elab.async false
set_option linter.all false
set_option maxRecDepth 100000
namespace Pu
open PySem PySem.Spec PyProof.Rows L2
/-- what is written into an object of the store -/
noncomputable def stD (o i v : D) (S : Sto) : Option Sto := match o with
  | .ref k => match S[k]? with
    | some (.lst xs) => match i with
      | .int j => (ixN xs.length j).map fun n => S.set k (.lst (xs.set n v))
      | _ => none
    | some (.dct kvs) => (keyOf i).bind fun q => if kvs.length < sizeLine then some (S.set k (.dct (putD kvs q v))) else none
    | _ => none
  | _ => none
/-- o[i] = v -/
noncomputable def sSt (f fo fi : Ev D) : Stm := fun e S => (f e S).stm e fun v S => (fo e S).stm e fun o S => (fi e S).stm e fun i S => match stD o i v S with
  | some S' => .next e S'
  | none => .bad
noncomputable def rSetA : TSet := fun o i v H Q => rSetL o i v H Q ∨ ∃ a H', o = .ref a ∧ DPut H a i v H' ∧ Q H'
section
variable {cl : Str → Addr} {W : WX} {X : Cx} {a b c : Expr} {es : List Expr} {f g h : Ev D} {fs : List (Ev D)} {pos p tpos : Pos} {x : Str}
theorem set_A (hu : X.A.units + 1 < cLine) : PSet X rSetA := by
  intro pins s σ H o i v ov iv u Q I ro ri rv h
  rcases h with h | ⟨a, H', rfl, g, q⟩
  · exact set_list pins s σ H o i v ov iv u Q I ro ri rv h
  · cases ro
    exact d_setItem hu I g ri rv fun s4 I4 => ⟨H', I4, q⟩
theorem st_ok {am : AM} {S S' : Sto} {H : Hp} {o i v : D} {ov iv vv : V} {Q : Hp → Prop} (rs : RelS X.K cl am S H) (h1 : VR X.K am H o ov) (h2 : VR X.K am H i iv) (h3 : VR X.K am H v vv) (e : stD o i v S = some S')
    (q : ∀ H', Grow am am H H' → RelS X.K cl am S' H' → Q H') : rSetA ov iv vv H Q := by
  cases h1 with
  | @ref k a hk =>
    simp only [stD] at e
    cases e1 : S[k]? with
    | none => rw [e1] at e; cases e
    | some ob =>
      rw [e1] at e
      cases ob with
      | lst xs =>
        obtain ⟨vs, r1, r2⟩ := rs.ob k _ a e1 hk
        cases h2 with
        | int j =>
          simp only at e
          cases e2 : ixN xs.length j with
          | none => rw [e2] at e; cases e
          | some n =>
            rw [e2] at e
            cases e
            have hm : a ∈ am.ad := List.mem_of_getElem? hk
            exact .inl ⟨a, vs, j, n, rfl, rfl, r1, by rw [← r2.length]; exact e2, q _ (Grow.put hm) (rs.put hk ⟨_, upd_same, (r2.setA n h3).mono (Grow.put hm)⟩)⟩
        | _ => cases e
      | dct kvs =>
        obtain ⟨vs, r1, r2⟩ := rs.ob k _ a e1 hk
        simp only at e
        cases e2 : keyOf i with
        | none => rw [e2] at e; cases e
        | some ky =>
          rw [e2] at e
          simp only [Option.bind_some] at e
          by_cases hz : kvs.length < sizeLine
          · rw [if_pos hz] at e
            cases e
            have hm : a ∈ am.ad := List.mem_of_getElem? hk
            exact .inr ⟨a, _, rfl, .inl ⟨vs, ky, r1, keyOf_ok h2 e2, by rw [← r2.length]; exact hz, rfl⟩, q _ (Grow.put hm) (rs.put hk ⟨_, upd_same, (r2.put ky h3).mono (Grow.put hm)⟩)⟩
          · rw [if_neg hz] at e
            cases e
      | ins c fs => cases e
      | fdc _ _ _ => cases e
      | tdc _ => cases e
  | _ => cases e
theorem qs_st {k : Nat} (hr : Room k X.A) (ha : QE cl W X a f) (hb : QE cl W X b g) (hc : QE cl W X c h) (hs : swapsWithSole [.Subscript b c tpos] a pos.line X.env = pure false := by rfl) (hw : swappedStores [.Subscript b c tpos] a X.env = pure none := by rfl)
    (h1 : (assignEach [.Subscript b c tpos] X.env).map (·.2) = [assign (.Subscript b c tpos) X.env] := by rfl)
    (h2 : ∀ v, assign (.Subscript b c tpos) X.env v = (do
      let ov ← holding [v] (eval b X.env)
      let iv ← holding [v, ov] (eval c X.env)
      standAt tpos
      holding [v, ov, iv] (setItem ov iv v)
      release [v, ov, iv] []) := by intro _; rfl) : QS cl W X (.Assign [.Subscript b c tpos] a pos) (sSt f g h) :=
  (ps_asg ha (pg_sub hb hc (set_A (hu_of hr)) h2) hs hw h1).imp fun E σ H ⟨am, e, S, rs, re, p⟩ =>
    ⟨am, e, S, rs, re, (PostS.step re p).imp fun x H1 ⟨am1, S1, d1, _, g1, rs1, rv1, p1⟩ =>
      ⟨am1, e, S1, rs1, re.mono g1, (PostS.step (re.mono g1) p1).imp fun y H2 ⟨am2, S2, d2, _, g2, rs2, rv2, p2⟩ =>
        ⟨am2, e, S2, rs2, (re.mono g1).mono g2, (PostS.step ((re.mono g1).mono g2) p2).imp fun z H3 ⟨am3, S3, d3, _, g3, rs3, rv3, p3⟩ => by
          cases q : stD d2 d3 d1 S3 with
          | none => simp only [q] at p3; exact p3.elim
          | some S' =>
            simp only [q] at p3
            exact st_ok rs3 (rv2.mono g3) rv3 ((rv1.mono g2).mono g3) q fun H' g4 rs4 => p3 am3 σ H' g4 rs4 ((((re.mono g1).mono g2).mono g3).mono g4)⟩⟩⟩
/-- name op= e -/
noncomputable def sAug (op : D → D → Sto → Res D) (i : Nat) (f : Ev D) : Stm := fun e S => (eVar i e S).stm e fun x S => (f e S).stm e fun y S => (op x y S).stm e fun z S => .next (e.set i (some z)) S
noncomputable def OkM (K : PySem.W.Frag) (cl : Str → Addr) (T : String) (r : V → List V → Hp → VK → Prop) (op : D → List D → Sto → Res D) : Prop :=
  ∀ (W : WX) (σ : L2.St) (am : AM) (S : Sto) (H : Hp) (o : D) (ds : List D) (x : V) (vs : List V) (Q : VK), RelS K cl am S H → VR K am H o x → VRs K am H ds vs → Post K cl W σ (VR K) am H (op o ds S) Q → r x vs H Q
/-- of the receiver, ahead of the arguments -/
noncomputable def isT (T : String) (o : D) (S : Sto) : Prop := match o with
  | .str _ => T = "str"
  | .int _ => T = "int"
  | o => (T = "list" ∧ (lsOf S o).isSome = true) ∨ (T = "dict" ∧ (dcOf S o).isSome = true)
noncomputable instance (T : String) (o : D) (S : Sto) : Decidable (isT T o S) := by unfold isT; cases o <;> infer_instance
theorem isT_ok {K : PySem.W.Frag} {am : AM} {S : Sto} {H : Hp} {T : String} {o : D} {x : V} (rs : RelS K cl am S H) (h : VR K am H o x) (t : isT T o S) : tyV K T x H := by
  have oth : ((T = "list" ∧ (lsOf S o).isSome = true) ∨ (T = "dict" ∧ (dcOf S o).isSome = true)) → tyV K T x H := fun t => by
    rcases t with ⟨e, t⟩ | ⟨e, t⟩
    · obtain ⟨xs, q⟩ := Option.isSome_iff_exists.mp t
      obtain ⟨a, vs, ev, r1, _⟩ := lsOf_ok rs h q
      subst ev
      exact .inl ⟨e, vs, r1⟩
    · obtain ⟨xs, q⟩ := Option.isSome_iff_exists.mp t
      obtain ⟨a, vs, ev, r1, _⟩ := dcOf_ok rs h q
      subst ev
      exact .inr (.inr (.inl ⟨e, .inl ⟨vs, r1⟩⟩))
  cases h with
  | str x => exact t
  | int i => exact t
  | non => rcases t with ⟨_, t⟩ | ⟨_, t⟩ <;> cases t
  | bl b => rcases t with ⟨_, t⟩ | ⟨_, t⟩ <;> cases t
  | tup _ _ => rcases t with ⟨_, t⟩ | ⟨_, t⟩ <;> cases t
  | _ => exact oth t
noncomputable def eM (T : String) (op : D → List D → Sto → Res D) (fo : Ev D) (fs : List (Ev D)) : Ev D := fun e S => (fo e S).bind fun o S => if isT T o S then (eArgs fs e S).bind fun ds S => op o ds S else .bad
variable {o : Expr} {name : Str} {apos cpos : Pos} {T id : String} {r : V → List V → Hp → VK → Prop} {op : D → List D → Sto → Res D}
theorem qe_bm (pa : PlainAttrs T) (slot : Slot T name id) (hty : typeOf (.builtin id) = pure (.type "method_descriptor")) (hm : MtR X id r) (ok : OkM X.K cl T r op) (ho : QE cl W X o g) (ha : QA cl W X (a :: es) (eArgs fs))
    (hbase : attributeBase o name X.env (eval o X.env) = eval o X.env := by rfl)
    (hfew : ((backTo cpos (starEach (a :: es) X.env)).all (fun x => !x.1) && (backToKw cpos (keywordEach [] X.env)).all (fun x => x.1.isSome)
      && decide ((a :: es).length + ([] : List Keyword).length + (if ([] : List Keyword).isEmpty then 0 else 1) < 30)) = true := by rfl)
    (hline : (apos.endLine == cpos.line) = true := by rfl) (hs : starEach (a :: es) X.env = (false, eval a X.env) :: starEach es X.env := by rfl) (hplain : (backTo cpos (starEach es X.env)).any (·.1) = false := by rfl) :
    QE cl W X (.Call (.Attribute o name apos) (a :: es) [] cpos) (eM T op g fs) := (pe_bm pa slot hty hm ho ha hbase hfew hline hs hplain).imp fun σ H Q ⟨am, e, S, rs, re, p⟩ =>
  ⟨am, e, S, rs, re, (Post.step p).imp fun x H1 ⟨am1, S1, d1, _, g1, rs1, rv1, p1⟩ => by
    by_cases ht : isT T d1 S1
    · rw [if_pos ht] at p1
      exact ⟨isT_ok rs1 rv1 ht, am1, e, S1, rs1, re.mono g1, (Post.step p1).imp fun vs H2 ⟨am2, S2, ds, _, g2, rs2, rvs, p2⟩ => ok W σ am2 S2 H2 d1 ds x vs Q rs2 (rv1.mono g2) rvs p2⟩
    · rw [if_neg ht] at p1
      exact p1.elim⟩
/-- xs.append(y) -/
noncomputable def appD (o : D) (ds : List D) (S : Sto) : Res D := match o, ds with
  | .ref k, [y] => match S[k]? with
    | some (.lst xs) => if xs.length < sizeLine then .ok .non (S.set k (.lst (xs ++ [y]))) else .bad
    | _ => .bad
  | _, _ => .bad
theorem ok_app : OkM X.K cl "list" rAppend appD := by
  intro W σ am S H o ds x vs Q rs h1 h2 p
  cases h1 with
  | @ref k a hk =>
    cases h2 with
    | nil => exact p.elim
    | cons r1 r2 =>
      cases r2 with
      | cons _ _ => exact p.elim
      | nil =>
        simp only [appD] at p
        cases e1 : S[k]? with
        | none => rw [e1] at p; exact p.elim
        | some ob =>
          rw [e1] at p
          cases ob with
          | lst xs =>
            obtain ⟨us, q1, q2⟩ := rs.ob k _ a e1 hk
            simp only at p
            by_cases hz : xs.length < sizeLine
            · rw [if_pos hz] at p
              have hm : a ∈ am.ad := List.mem_of_getElem? hk
              exact ⟨a, us, _, rfl, rfl, q1, by rw [← q2.length]; exact hz, p am _ _ (Grow.put hm) (rs.put hk ⟨_, upd_same, (q2.append (.cons r1 .nil)).mono (Grow.put hm)⟩) .non⟩
            · rw [if_neg hz] at p
              exact p.elim
          | _ => exact p.elim
  | _ => exact p.elim
theorem qe_append (ho : QE cl W X o g) (ha : QE cl W X a f) (h0 : starEach [a] X.env = (false, eval a X.env) :: starEach [] X.env := by rfl)
    (hbase : attributeBase o "append" X.env (eval o X.env) = eval o X.env := by rfl)
    (hfew : ((backTo cpos (starEach [a] X.env)).all (fun x => !x.1) && (backToKw cpos (keywordEach [] X.env)).all (fun x => x.1.isSome)
      && decide (([a] : List Expr).length + ([] : List Keyword).length + (if ([] : List Keyword).isEmpty then 0 else 1) < 30)) = true := by rfl)
    (hline : (apos.endLine == cpos.line) = true := by rfl) (hplain : (backTo cpos (starEach [] X.env)).any (·.1) = false := by rfl) :
    QE cl W X (.Call (.Attribute o "append" apos) [a] [] cpos) (eM "list" appD g [f]) := qe_bm PySem.F.plainAttrs_list PySem.F.slot_list_append PySem.F.type_list_append mt_append ok_app ho (qa_cons ha qa_nil h0) hbase hfew hline h0 hplain
noncomputable def lenD (ds : List D) (S : Sto) : Res D := match ds with
  | [d] => match dcOf S d with
    | some kvs => match d with
      | .fls _ => .bad
      | _ => .ok (.int kvs.length) S
    | none => match d with
      | .str x => if x.length ≤ sizeLine then .ok (.int x.length) S else .bad
      | d => match sqOf S d with
        | some xs => .ok (.int xs.length) S
        | none => .bad
  | _ => .bad
theorem call_lenA : CallR X (.builtin "len") (fun xs H Q => (∃ x n, xs = [x] ∧ LenV X.K x H n ∧ Q (.int n) H) ∨ ∃ a kvs, xs = [V.ref a] ∧ H a = some (.dK kvs) ∧ Q (.int kvs.length) H) := CallR.or call_len call_lenD
theorem ok_len : OkN X.K cl (fun xs H Q => (∃ x n, xs = [x] ∧ LenV X.K x H n ∧ Q (.int n) H) ∨ ∃ a kvs, xs = [V.ref a] ∧ H a = some (.dK kvs) ∧ Q (.int kvs.length) H) lenD := by
  intro W σ am S H ds vs Q rs h p
  cases h with
  | nil => exact p.elim
  | @cons d v ds vs r1 r2 =>
    cases r2 with
    | cons _ _ => exact p.elim
    | nil =>
      simp only [lenD] at p
      cases q : dcOf S d with
      | some kvs =>
        rw [q] at p
        obtain ⟨a, us, ev, q1, q2⟩ := dcOf_ok rs r1 q
        subst ev
        refine .inr ⟨a, us, rfl, q1, ?_⟩
        rw [← q2.length]
        cases r1 with
        | fls _ _ => cases q
        | _ => exact p am _ H .refl rs (.int _)
      | none =>
        rw [q] at p
        have sq : Post X.K cl W σ (VR X.K) am H (match sqOf S d with | some xs => .ok (.int xs.length) S | none => .bad) Q → ∃ x n, [v] = [x] ∧ LenV X.K x H n ∧ Q (.int n) H := fun p => by
          cases q3 : sqOf S d with
          | none => rw [q3] at p; exact p.elim
          | some xs =>
            rw [q3] at p
            obtain ⟨a, us, ev, hq, hs⟩ := sqOf_ok rs r1 q3
            subst ev
            refine ⟨_, xs.length, rfl, ?_, p am _ H .refl rs (.int _)⟩
            rcases hq with hq | hq
            · exact .inl ⟨us, hq, hs.length⟩
            · exact .inr ⟨us, hq, hs.length⟩
        cases r1 with
        | str x =>
          simp only at p
          by_cases hz : x.length ≤ sizeLine
          · rw [if_pos hz] at p
            exact .inl ⟨_, x.length, rfl, ⟨hz, rfl⟩, p am _ H .refl rs (.int _)⟩
          · rw [if_neg hz] at p
            exact p.elim
        | _ => exact .inl (sq p)
/-- int of a truth or a number -/
noncomputable def int1D (ds : List D) (S : Sto) : Res D := match ds with
  | [.int i] => .ok (.int i) S
  | [.bl b] => .ok (.int (if b then 1 else 0)) S
  | _ => .bad
theorem ok_int1 : OkN X.K cl (fun xs H Q => (∃ i, xs = [.int i] ∧ Q (.int i) H) ∨ ∃ k, xs = [.bl k] ∧ Q (.int (if k then 1 else 0)) H) int1D := by
  intro W σ am S H ds vs Q rs h p
  cases h with
  | nil => exact p.elim
  | cons r1 r2 =>
    cases r2 with
    | cons _ _ => cases r1 <;> exact p.elim
    | nil =>
      cases r1 with
      | int i => exact .inl ⟨i, rfl, p am _ H .refl rs (.int _)⟩
      | bl b => exact .inr ⟨b, rfl, p am _ H .refl rs (.int _)⟩
      | _ => exact p.elim
/-- tuple of a list or a tuple -/
noncomputable def tupD (ds : List D) (S : Sto) : Res D := match ds with
  | [d] => match sqOf S d with
    | some xs => .ok (.tup xs) S
    | none => .bad
  | _ => .bad
theorem ok_tup : OkN X.K cl (fun xs H Q => ∃ p ys, xs = [.ref p] ∧ ((SqL X.K H p ys ∧ NT ys H Q) ∨ (SqT X.K H p ys ∧ Q (.ref p) H))) tupD := by
  intro W σ am S H ds vs Q rs h p
  cases h with
  | nil => exact p.elim
  | @cons d v ds vs r1 r2 =>
    cases r2 with
    | cons _ _ => exact p.elim
    | nil =>
      simp only [tupD] at p
      have ls : Post X.K cl W σ (VR X.K) am H (match lsOf S d with | some xs => .ok (.tup xs) S | none => .bad) Q → ∃ p ys, [v] = [.ref p] ∧ ((SqL X.K H p ys ∧ NT ys H Q) ∨ (SqT X.K H p ys ∧ Q (.ref p) H)) := fun p => by
        cases q : lsOf S d with
        | none => rw [q] at p; exact p.elim
        | some xs =>
          rw [q] at p
          obtain ⟨a, us, ev, q1, q2⟩ := lsOf_ok rs r1 q
          subst ev
          exact ⟨a, us, rfl, .inl ⟨q1, fun l ob hl hd => p am _ _ (Grow.upd hl) (rs.upd hl) (VR.tupNew rs q2 hl hd)⟩⟩
      cases r1 with
      | @tup a us xs t hs => exact ⟨a, us, rfl, .inr ⟨t.seq, p am _ H .refl rs (.tup t hs)⟩⟩
      | lst _ _ _ => exact ls p
      | fls _ _ => exact ls p
      | ref _ => exact ls p
      | _ => exact p.elim
/-- all, any of a list of truths -/
noncomputable def bools : List D → Option (List Bool)
  | [] => some []
  | .bl b :: xs => (bools xs).map (b :: ·)
  | _ :: _ => none
noncomputable def intsL : List D → Option (List Int)
  | [] => some []
  | .int b :: xs => (intsL xs).map (b :: ·)
  | _ :: _ => none
@[simp] theorem bools_map (bs : List Bool) : bools (bs.map D.bl) = some bs := by
  induction bs with
  | nil => rfl
  | cons b bs ih => rw [List.map_cons]; simp only [bools, ih, Option.map_some]
@[simp] theorem ints_map (bs : List Int) : intsL (bs.map D.int) = some bs := by
  induction bs with
  | nil => rfl
  | cons b bs ih => rw [List.map_cons]; simp only [intsL, ih, Option.map_some]
theorem ints_ok {K : PySem.W.Frag} {am : AM} {H : Hp} : ∀ {ds : List D} {vs : List V} {bs : List Int}, VRs K am H ds vs → intsL ds = some bs → vs = bs.map V.int
  | _, _, _, .nil, e => by cases e; rfl
  | _, _, _, .cons (ds := ds) h t, e => by
    cases h with
    | int b =>
      simp only [intsL] at e
      cases q : intsL ds with
      | none => rw [q] at e; cases e
      | some bs =>
        rw [q] at e
        cases e
        rw [List.map_cons, ints_ok t q]
    | _ => cases e
noncomputable def minI (i j : Int) : Int := if j < i then j else i
variable (hm : X.mg x = none)
/-- calls by name -/
theorem qe_len (hg : Gl X "len") (hm : X.mg "len" = none) (ha : QA cl W X [a] (eArgs fs)) (he : starEach [a] X.env = (false, eval a X.env) :: starEach [] X.env := by rfl) (hpl : (backTo pos (starEach [] X.env)).any (·.1) = false := by rfl) : QE cl W X (.Call (.Name "len" p) [a] [] pos) (eCall lenD fs) := qe_callB call_lenA ok_len hg hm PySem.boot_len ha (by decide) (by decide) he hpl
theorem qe_intOf (hg : Gl X "int") (hm : X.mg "int" = none) (ha : QA cl W X [a] (eArgs fs)) (he : starEach [a] X.env = (false, eval a X.env) :: starEach [] X.env := by rfl) (hpl : (backTo pos (starEach [] X.env)).any (·.1) = false := by rfl) : QE cl W X (.Call (.Name "int" p) [a] [] pos) (eCall int1D fs) := qe_callT call_int1 ok_int1 hg hm (by decide +kernel) ha (by decide) (by decide) he hpl
theorem qe_tuple (hg : Gl X "tuple") (hm : X.mg "tuple" = none) (ha : QA cl W X [a] (eArgs fs)) (he : starEach [a] X.env = (false, eval a X.env) :: starEach [] X.env := by rfl) (hpl : (backTo pos (starEach [] X.env)).any (·.1) = false := by rfl) : QE cl W X (.Call (.Name "tuple" p) [a] [] pos) (eCall tupD fs) := qe_callT cr_tupleF ok_tup hg hm (by decide +kernel) ha (by decide) (by decide) he hpl
end
section
variable {K : PySem.W.Frag} {cl : Str → Addr}
theorem law_sp {F : List D → Sto → Res D} (h : ∀ ns : List Int, ns.length ≤ 63 → ∃ S, F [.fls (ns.map D.int)] [] = .ok (.bl true) S) (H : Hp) (a : Addr) (ns : List Int) (hl : ns.length ≤ 63) (hs : SqL K H a (ns.map V.int)) :
    SpD K cl 1 F [.ref a] H (fun v _ => v = .bl true) (fun _ _ _ => False) := by
  obtain ⟨S, e⟩ := h ns hl
  refine ⟨⟨[], [], fun _ h => h⟩, [.fls (ns.map D.int)], [], rfl, ⟨rfl, .nil, fun k o a h => by simp at h, fun a h => by simp at h⟩, .cons (.fls (vs := ns.map V.int) ?_ ?_) .nil, ?_⟩
  · rcases hs with hs | hs
    · exact .inl ⟨hs, by simp⟩
    · exact .inr hs
  · clear e hl hs h
    induction ns with
    | nil => exact .nil
    | cons n ns ih => exact .cons (.int n) ih
  · rw [e]
    intro am' v H' g rs rv
    cases rv
    rfl
theorem cx_no {P : Program} {w : World} {o : List PySem.Env} {H : Hp} {s : Shared} {e : Value} {s' : Shared} (h : L2N.CX P w o H s (fun _ _ _ => False) e s') : False := by
  obtain ⟨_, _, _, _, _, _, _, _, _, _, _, _, z⟩ := h
  exact z
end
end Pu
set_option Elab.async false
set_option linter.all false
set_option maxRecDepth 100000
namespace Pu
open PySem PySem.Spec PyProof.Rows L2
section
variable {α : Type} {e : En} {S : Sto} {f g h : Ev D} {fs : List (Ev D)} {a b c : Stm} {s t : Ev Bool}
@[simp] theorem ap_C {d : D} : eC d e S = .ok d S := id rfl
@[simp] theorem ap_Var0 {d : D} {r : En} : eVar 0 (some d :: r) S = .ok d S := id rfl
@[simp] theorem ap_VarS {i : Nat} {x : Option D} {r : En} : eVar (i + 1) (x :: r) S = eVar i r S := by simp [eVar]
@[simp] theorem ap_1 {o : D → Sto → Res D} : e1 o f e S = (f e S).bind fun x S => o x S := id rfl
@[simp] theorem ap_2 {o : D → D → Sto → Res D} : e2 o f g e S = (f e S).bind fun x S => (g e S).bind fun y S => o x y S := id rfl
@[simp] theorem ap_TB : eTB f e S = (f e S).bind toB := id rfl
@[simp] theorem ap_Ch {o o' : D → D → Sto → Res D} : eCh o o' f g h e S = (f e S).bind fun x S => (g e S).bind fun y S => (o x y S).bind fun z S => (toB z S).bind fun k S => if k = true then (h e S).bind fun w S => o' y w S else .ok (.bl false) S := id rfl
@[simp] theorem ap_tAnd : tAndD s t e S = (s e S).bind fun b S => if b = true then t e S else .ok false S := id rfl
@[simp] theorem ap_tOr : tOrD s t e S = (s e S).bind fun b S => if b = true then .ok true S else t e S := id rfl
@[simp] theorem ap_tNot : tNotD s e S = (s e S).bind fun b S => .ok (!b) S := id rfl
@[simp] theorem ap_eAnd : eAndD f g e S = (f e S).bind fun d S => (toB d S).bind fun b S => if b = true then g e S else .ok (.bl false) S := id rfl
@[simp] theorem ap_eOr : eOrD f g e S = (f e S).bind fun d S => (toB d S).bind fun b S => if b = true then .ok (.bl true) S else g e S := id rfl
@[simp] theorem ap_eNot : eNotD f e S = (f e S).bind fun d S => (toB d S).bind fun b S => .ok (.bl (!b)) S := id rfl
@[simp] theorem ap_eIf : eIf t f g e S = (t e S).bind fun b S => if b = true then f e S else g e S := id rfl
@[simp] theorem ap_Tr : eTr f e S = (f e S).bind truD := id rfl
@[simp] theorem ap_Args0 : eArgs [] e S = .ok [] S := id rfl
@[simp] theorem ap_Args : eArgs (f :: fs) e S = (f e S).bind fun x S => (eArgs fs e S).bind fun xs S => .ok (x :: xs) S := id rfl
@[simp] theorem ap_Tup : eTup fs e S = (eArgs fs e S).bind fun xs S => .ok (.tup xs) S := id rfl
@[simp] theorem ap_Call {op : List D → Sto → Res D} : eCall op fs e S = (eArgs fs e S).bind op := id rfl
@[simp] theorem ap_Fn {op : List D → Sto → Res D} : eFn op fs e S = (eArgs fs e S).bind op := id rfl
@[simp] theorem ap_nLst : nLst fs e S = (eArgs fs e S).bind fun xs S => .ok (.lst xs) S := id rfl
@[simp] theorem ap_nDct0 : nDct0 e S = .ok (.dct []) S := id rfl
@[simp] theorem ap_Ano {n : Ev DO} : eAno n e S = (n e S).bind anoD := id rfl
@[simp] theorem ap_New {n : Ev DO} : eNew n e S = (n e S).bind fun o S => .ok (.ref S.length) (S ++ [o]) := id rfl
@[simp] theorem ap_M {T : String} {op : D → List D → Sto → Res D} : eM T op f fs e S = (f e S).bind fun o S => if isT T o S then (eArgs fs e S).bind fun ds S => op o ds S else .bad := id rfl
@[simp] theorem ap_Sl {p q : Ev (Option Int)} : eSl f p q e S = (f e S).bind fun d S => (p e S).bind fun lo S => (q e S).bind fun hi S => slD d lo hi S := id rfl
@[simp] theorem ap_pN : pN e S = .ok none S := id rfl
@[simp] theorem ap_pE : pE f e S = (f e S).bind fun d S => match d with
  | .int i => .ok (some i) S
  | _ => .bad := rfl
@[simp] theorem ap_yes : tYesD e S = .ok true S := id rfl
@[simp] theorem ap_Set {i : Nat} : sSet i f e S = (f e S).stm e fun d S => .next (e.set i (some d)) S := id rfl
@[simp] theorem ap_Ret : sRet f e S = (f e S).stm e fun d S => .ret d S := id rfl
@[simp] theorem ap_Expr : sExpr f e S = (f e S).stm e fun _ S => .next e S := id rfl
@[simp] theorem ap_Next : sNext e S = .next e S := id rfl
@[simp] theorem ap_Brk : sBrk e S = .brk e S := id rfl
@[simp] theorem ap_Seq : sSeq a b e S = (a e S).seq b := id rfl
@[simp] theorem ap_If : sIf t a b e S = (t e S).stm e fun k S => if k = true then a e S else b e S := id rfl
@[simp] theorem ap_St : sSt f g h e S = (f e S).stm e fun v S => (g e S).stm e fun o S => (h e S).stm e fun i S => match stD o i v S with
  | some S' => .next e S'
  | none => .bad := rfl
@[simp] theorem ap_Asg {tg : Tg} : sAsg tg f e S = (f e S).stm e fun d S => match bindT tg d e with
  | some e' => .next e' S
  | none => .bad := rfl
@[simp] theorem ap_Aug {op : D → D → Sto → Res D} {i : Nat} : sAug op i f e S = (eVar i e S).stm e fun x S => (f e S).stm e fun y S => (op x y S).stm e fun z S => .next (e.set i (some z)) S := id rfl
noncomputable def fgtR (vs : List Nat) (r : SRes) : SRes := match r with
  | .next e S => .next (wipeE e vs) S
  | r => r
@[simp] theorem ap_Fgt {vs : List Nat} : sFgt vs a e S = fgtR vs (a e S) := id rfl
@[simp] theorem fgt_next {vs : List Nat} : fgtR vs (.next e S) = .next (wipeE e vs) S := id rfl
@[simp] theorem fgt_ret {vs : List Nat} {d : D} : fgtR vs (.ret d S) = .ret d S := id rfl
@[simp] theorem fgt_brk {vs : List Nat} : fgtR vs (.brk e S) = .brk e S := id rfl
@[simp] theorem fgt_bad {vs : List Nat} : fgtR vs .bad = .bad := id rfl
@[simp] theorem ap_For {dead : List Nat} {tg : Tg} {it : Ev Src} : sFor dead tg it a e S = (it e S).stm e fun src S => forD dead tg src a src.items e S := id rfl
@[simp] theorem ap_iL : iL f e S = (f e S).bind srcL := id rfl
@[simp] theorem ap_iT : iT f e S = (f e S).bind srcT := id rfl
@[simp] theorem ap_iR1 : iR1 f e S = (f e S).bind fun x S => srcR1 [x] S := by
  unfold iR1
  simp only [ap_Args, ap_Args0]
  cases f e S <;> rfl
@[simp] theorem ap_iR2 : iR2 f g e S = (f e S).bind fun x S => (g e S).bind fun y S => srcR2 [x, y] S := by
  unfold iR2
  simp only [ap_Args, ap_Args0]
  cases f e S with
  | ok a S1 => simp only [Res.bind_ok]; cases g e S1 <;> rfl
  | exc c S1 => rfl
  | bad => rfl
@[simp] theorem ap_Lc {vs : List Nat} {tg : Tg} {it : Ev Src} : nLc vs tg it t f e S = (it e S).bind fun src S => if src.items.length ≤ sizeLine then (lcD tg src t f (wipeE e vs) src.items S).bind fun ds S => .ok (.lst ds) S else .bad := id rfl
@[simp] theorem wipe_nil : wipeE e [] = e := id rfl
@[simp] theorem wipe_cons {v : Nat} {vs : List Nat} : wipeE e (v :: vs) = (wipeE e vs).set v none := id rfl
@[simp] theorem bindT_nm {i : Nat} {d : D} : bindT (.nm i) d e = some (e.set i (some d)) := id rfl
@[simp] theorem bindT_tp {ts : List Tg} {ds : List D} : bindT (.tp ts) (.tup ds) e = bindTs ts ds e := id rfl
@[simp] theorem bindT_tpi {ts : List Tg} {ds : List D} : bindT (.tp ts) (.tpi ds) e = bindTs ts ds e := id rfl
@[simp] theorem bindTs_nil : bindTs [] [] e = some e := id rfl
@[simp] theorem bindTs_cons {t : Tg} {ts : List Tg} {d : D} {ds : List D} : bindTs (t :: ts) (d :: ds) e = (bindT t d e).bind fun e => bindTs ts ds e := id rfl
/-- operations -/
@[simp] theorem addD_int {i j : Int} : addD (.int i) (.int j) S = .ok (.int (i + j)) S := id rfl
@[simp] theorem addD_tup {i j : List D} : addD (.tup i) (.tup j) S = if i.length + j.length ≤ sizeLine then .ok (.tup (i ++ j)) S else .bad := id rfl
@[simp] theorem addD_str {i j : Str} : addD (.str i) (.str j) S = if i.length + j.length ≤ sizeLine then .ok (.str (i ++ j)) S else .bad := id rfl
@[simp] theorem mulD_int {i j : Int} : mulD (.int i) (.int j) S = if FitMul i j then .ok (.int (i * j)) S else .bad := id rfl
@[simp] theorem negD_int {i : Int} : negD (.int i) S = .ok (.int (-i)) S := id rfl
@[simp] theorem isND_ap {neg : Bool} {d : D} : isND neg d S = .ok (.bl (if neg = true then !d.isN else d.isN)) S := id rfl
@[simp] theorem isN_non : D.non.isN = true := id rfl
@[simp] theorem isN_int {i : Int} : (D.int i).isN = false := id rfl
@[simp] theorem isN_tup {i : List D} : (D.tup i).isN = false := id rfl
@[simp] theorem isN_str {i : Str} : (D.str i).isN = false := id rfl
@[simp] theorem truD_bl {b : Bool} : truD (.bl b) S = .ok b S := id rfl
@[simp] theorem truD_int {i : Int} : truD (.int i) S = .ok (i != 0) S := id rfl
@[simp] theorem lenD_tup {xs : List D} : lenD [.tup xs] S = .ok (.int xs.length) S := id rfl
@[simp] theorem lenD_lst {xs : List D} : lenD [.lst xs] S = .ok (.int xs.length) S := id rfl
@[simp] theorem lenD_fls {xs : List D} : lenD [.fls xs] S = .ok (.int xs.length) S := id rfl
@[simp] theorem int1_int {i : Int} : int1D [.int i] S = .ok (.int i) S := id rfl
@[simp] theorem int1_bl {b : Bool} : int1D [.bl b] S = .ok (.int (if b then 1 else 0)) S := id rfl
@[simp] theorem tupD_tup {xs : List D} : tupD [.tup xs] S = .ok (.tup xs) S := id rfl
@[simp] theorem tupD_lst {xs : List D} : tupD [.lst xs] S = .ok (.tup xs) S := id rfl
theorem tupD_ref {k : Nat} {xs : List D} (h : S[k]? = some (.lst xs)) : tupD [.ref k] S = .ok (.tup xs) S := by
  simp [tupD, sqOf, lsOf, h]
@[simp] theorem ixD_tup {xs : List D} {j : Int} : ixD (.tup xs) (.int j) S = opt (atI xs j) S := id rfl
@[simp] theorem ixD_lst {xs : List D} {j : Int} : ixD (.lst xs) (.int j) S = opt (atI xs j) S := id rfl
@[simp] theorem ixD_fls {xs : List D} {j : Int} : ixD (.fls xs) (.int j) S = opt (atI xs j) S := id rfl
theorem ixD_ref {k : Nat} {xs : List D} {j : Int} (h : S[k]? = some (.lst xs)) : ixD (.ref k) (.int j) S = opt (atI xs j) S := by
  simp [ixD, dcOf, sqOf, lsOf, h]
@[simp] theorem srcT_tup {xs : List D} : srcT (.tup xs) S = .ok (.tmp xs) S := id rfl
@[simp] theorem srcL_lst {xs : List D} : srcL (.lst xs) S = .ok (.tmp xs) S := id rfl
@[simp] theorem srcL_fls {xs : List D} : srcL (.fls xs) S = .ok (.tmp xs) S := id rfl
theorem srcL_ref {k : Nat} {xs : List D} (h : S[k]? = some (.lst xs)) : srcL (.ref k) S = .ok (.st k xs) S := by
  simp [srcL, h]
theorem stD_lst {k : Nat} {xs : List D} {j : Int} {v : D} {n : Nat} (h : S[k]? = some (.lst xs)) (hn : ixN xs.length j = some n) : stD (.ref k) (.int j) v S = some (S.set k (.lst (xs.set n v))) := by
  simp [stD, h, hn]
theorem appD_ref {k : Nat} {xs : List D} {y : D} (h : S[k]? = some (.lst xs)) (hl : xs.length < sizeLine) : appD (.ref k) [y] S = .ok .non (S.set k (.lst (xs ++ [y]))) := by
  simp [appD, h, hl]
theorem isT_ref {k : Nat} {xs : List D} (h : S[k]? = some (.lst xs)) : isT "list" (.ref k) S := by
  simp [isT, lsOf, h]
end
theorem fin_frz {S S' : Sto} {d : D} (hc : Clo S S') (h : d.gnd = true) : fin .frz S d S' = .ok d (S'.take S.length) := by
  simp only [fin]
  rw [if_pos hc]
  unfold frzV
  rw [if_pos (gnd_below _ d h)]
  rfl
theorem Clo.refl {S : Sto} : Clo S S := ⟨Nat.le_refl _, fun k o hk h => .inl h⟩
theorem Clo.app {S T : Sto} : Clo S (S ++ T) := ⟨by simp, fun k o hk h => .inl (by rw [List.getElem?_append_left hk] at h; exact h)⟩
theorem fin_same {S : Sto} {d : D} (h : d.gnd = true) : fin .frz S d S = .ok d S := by
  rw [fin_frz .refl h, List.take_length]
theorem fin_app {S T : Sto} {d : D} (h : d.gnd = true) : fin .frz S d (S ++ T) = .ok d S := by
  rw [fin_frz .app h, List.take_left]
theorem Clo.set {S T : Sto} {k : Nat} {o : DO} (h : o.bel S.length = true) : Clo S (S.set k o ++ T) := ⟨by simp, fun j u hj e => by
  rw [List.getElem?_append_left (by simpa using hj)] at e
  by_cases hk : k = j
  · subst hk
    rw [List.getElem?_set_self hj] at e
    cases e
    exact .inr h
  · rw [List.getElem?_set_ne hk] at e
    exact .inl e⟩
theorem fin_set {S T : Sto} {d : D} {k : Nat} {o : DO} (h : d.gnd = true) (ho : o.bel S.length = true) : fin .frz S d (S.set k o ++ T) = .ok d (S.set k o) := by
  rw [fin_frz (.set ho) h]
  have : (S.set k o).length = S.length := by simp
  rw [← this, List.take_left]
theorem fin_set0 {S : Sto} {d : D} {k : Nat} {o : DO} (h : d.gnd = true) (ho : o.bel S.length = true) : fin .frz S d (S.set k o) = .ok d (S.set k o) := by
  have := fin_set (T := []) (S := S) (k := k) h ho
  simpa using this
@[simp] theorem retD_ret {m : Md} {S S' : Sto} {d : D} : retD m S (.ret d S') = fin m S d S' := id rfl
@[simp] theorem retD_next {m : Md} {S S' : Sto} {e : En} : retD m S (.next e S') = fin m S .non S' := id rfl
@[simp] theorem gnd_non : D.non.gnd = true := id rfl
@[simp] theorem gnd_bl {b : Bool} : (D.bl b).gnd = true := id rfl
@[simp] theorem gnd_int {b : Int} : (D.int b).gnd = true := id rfl
@[simp] theorem gnd_str {b : Str} : (D.str b).gnd = true := id rfl
@[simp] theorem gnd_tup {xs : List D} : (D.tup xs).gnd = gnds xs := id rfl
@[simp] theorem gnd_lst {xs : List D} : (D.lst xs).gnd = gnds xs := id rfl
@[simp] theorem gnd_fls {xs : List D} : (D.fls xs).gnd = gnds xs := id rfl
@[simp] theorem gnds_nil : gnds [] = true := id rfl
@[simp] theorem gnds_cons {x : D} {xs : List D} : gnds (x :: xs) = (x.gnd && gnds xs) := id rfl
theorem gnds_all : ∀ xs : List D, gnds xs = xs.all D.gnd
  | [] => rfl
  | x :: xs => by rw [gnds_cons, List.all_cons, gnds_all xs]
@[simp] theorem gnds_app {xs ys : List D} : gnds (xs ++ ys) = (gnds xs && gnds ys) := by simp [gnds_all]
theorem gnds_map {α : Type} {f : α → D} (h : ∀ x, (f x).gnd = true) (xs : List α) : gnds (xs.map f) = true := by simp [gnds_all, h]
@[simp] theorem gnds_ints (xs : List Int) : gnds (xs.map D.int) = true := gnds_map (fun _ => rfl) xs
@[simp] theorem bel_lstO {n : Nat} {xs : List D} : (DO.lst xs).bel n = belows n xs := id rfl
@[simp] theorem belows_nil {n : Nat} : belows n [] = true := id rfl
@[simp] theorem belows_cons {n : Nat} {x : D} {xs : List D} : belows n (x :: xs) = (x.bel n && belows n xs) := id rfl
@[simp] theorem bel_int {n : Nat} {i : Int} : (D.int i).bel n = true := id rfl
theorem atI_cast {α : Type} {xs : List α} {n : Nat} : atI xs (n : Int) = xs[n]? := by
  by_cases h : n < xs.length
  · rw [List.getElem?_eq_getElem h]
    exact atI_nat (List.getElem?_eq_getElem h)
  · rw [List.getElem?_eq_none (by omega)]
    unfold atI ixN
    rw [if_pos (by omega), if_neg (by omega)]
    rfl
@[simp] theorem atI_0 {α : Type} {xs : List α} : atI xs 0 = xs[0]? := atI_cast (n := 0)
@[simp] theorem atI_1 {α : Type} {xs : List α} : atI xs 1 = xs[1]? := atI_cast (n := 1)
@[simp] theorem atI_2 {α : Type} {xs : List α} : atI xs 2 = xs[2]? := atI_cast (n := 2)
@[simp] theorem atI_3 {α : Type} {xs : List α} : atI xs 3 = xs[3]? := atI_cast (n := 3)
@[simp] theorem atI_4 {α : Type} {xs : List α} : atI xs 4 = xs[4]? := atI_cast (n := 4)
@[simp] theorem atI_m1 {α : Type} {xs : List α} : atI xs (-1) = xs.getLast? := by
  rcases List.eq_nil_or_concat xs with h | ⟨ys, y, h⟩
  · subst h; rfl
  · subst h
    rw [List.concat_eq_append, atI_last]
    simp
theorem modD_pos {i j : Int} {S : Sto} (h : 0 < j) : modD (.int i) (.int j) S = .ok (.int (i % j)) S := by
  simp [fmodI, h]
  omega
theorem fdivD_pos {i j : Int} {S : Sto} (h : 0 < j) (hl : j.natAbs.log2 < 9000) : fdivD (.int i) (.int j) S = .ok (.int (i / j)) S := by
  simp [fdivI, DivOk, h, hl]
@[simp] theorem startE_a1 {n : Nat} {a : D} : startE (n + 1) [a] = some a :: List.replicate n none := id rfl
@[simp] theorem startE_a2 {n : Nat} {a b : D} : startE (n + 2) [a, b] = some a :: some b :: List.replicate n none := id rfl
@[simp] theorem startE_a3 {n : Nat} {a b c : D} : startE (n + 3) [a, b, c] = some a :: some b :: some c :: List.replicate n none := id rfl
@[simp] theorem startE_a4 {n : Nat} {a b c d : D} : startE (n + 4) [a, b, c, d] = some a :: some b :: some c :: some d :: List.replicate n none := id rfl
end Pu
set_option Elab.async false
set_option linter.all false
set_option maxRecDepth 100000
namespace Pu
open PySem PySem.Spec PyProof.Rows L2
/-- what a turn leaves -/
noncomputable def aft (dead : List Nat) (r : SRes) : SRes := match r with
  | .next e2 S2 => .next (wipeE e2 dead) S2
  | .cnt e2 S2 => .next (wipeE e2 dead) S2
  | r => r
@[simp] theorem aft_next {dead : List Nat} {e : En} {S : Sto} : aft dead (.next e S) = .next (wipeE e dead) S := id rfl
@[simp] theorem aft_cnt {dead : List Nat} {e : En} {S : Sto} : aft dead (.cnt e S) = .next (wipeE e dead) S := id rfl
@[simp] theorem aft_brk {dead : List Nat} {e : En} {S : Sto} : aft dead (.brk e S) = .brk e S := id rfl
@[simp] theorem aft_ret {dead : List Nat} {d : D} {S : Sto} : aft dead (.ret d S) = .ret d S := id rfl
/-- one turn of a for -/
noncomputable def turn (dead : List Nat) (tg : Tg) (body : Stm) (x : D) (e : En) (S : Sto) : SRes := match bindT tg x e with
  | none => .bad
  | some e1 => aft dead (body e1 S)
section
variable {dead : List Nat} {tg : Tg} {src : Src} {body : Stm} {e : En} {S : Sto}
theorem forD_nil (h : src.ok S) : forD dead tg src body [] e S = .next e S := by
  unfold forD
  rw [if_pos h]
theorem forD_cons {x : D} {xs : List D} (h : src.ok S) : forD dead tg src body (x :: xs) e S = match turn dead tg body x e S with
    | .next e2 S2 => forD dead tg src body xs e2 S2
    | .brk e2 S2 => .next e2 S2
    | .cnt e2 S2 => .cnt e2 S2
    | r => r := by
  conv => lhs; unfold forD
  rw [if_pos h]
  unfold turn
  cases bindT tg x e with
  | none => rfl
  | some e1 =>
    simp only [aft]
    cases body e1 S <;> rfl
/-- every turn goes on -/
theorem for_inv (I : Nat → En → Sto → Prop) (ok : ∀ n e S, I n e S → src.ok S) : ∀ (xs : List D) (k : Nat) (e : En) (S : Sto), I k e S →
    (∀ (n : Nat) (e : En) (S : Sto) (x : D), xs[n]? = some x → I (k + n) e S → ∃ e' S', turn dead tg body x e S = .next e' S' ∧ I (k + n + 1) e' S') →
    ∃ e' S', forD dead tg src body xs e S = .next e' S' ∧ I (k + xs.length) e' S'
  | [], k, e, S, h0, _ => ⟨e, S, forD_nil (ok _ _ _ h0), h0⟩
  | x :: xs, k, e, S, h0, h => by
    obtain ⟨e1, S1, q1, h1⟩ := h 0 e S x rfl h0
    obtain ⟨e2, S2, q2, h2⟩ := for_inv I ok xs (k + 1) e1 S1 h1 fun n e S y hy hI => by
      have := h (n + 1) e S y (by simpa using hy)
      rw [show k + (n + 1) = k + 1 + n by omega] at this
      exact this hI
    refine ⟨e2, S2, ?_, by rw [List.length_cons, show k + (xs.length + 1) = k + 1 + xs.length by omega]; exact h2⟩
    rw [forD_cons (ok _ _ _ h0), q1]
    exact q2
/-- .. from the first, over data that stand still -/
theorem for_inv0 {ys : List D} (I : Nat → En → Sto → Prop) {xs : List D} (h0 : I 0 e S) (h : ∀ (n : Nat) (e : En) (S : Sto) (x : D), xs[n]? = some x → I n e S → ∃ e' S', turn dead tg body x e S = .next e' S' ∧ I (n + 1) e' S') :
    ∃ e' S', forD dead tg (.tmp ys) body xs e S = .next e' S' ∧ I xs.length e' S' := by
  obtain ⟨e', S', q, h'⟩ := for_inv (src := .tmp ys) I (fun _ _ _ _ => trivial) xs 0 e S h0 (fun n e S x hx hI => by
    rw [Nat.zero_add] at hI ⊢
    exact h n e S x hx hI)
  rw [Nat.zero_add] at h'
  exact ⟨e', S', q, h'⟩
variable {t : Ev Bool} {f : Ev D}
/-- a comprehension that changes nothing -/
theorem lc_map {ι : Type} {ys : List D} (v : ι → D) (p : ι → Bool) (g : ι → D) : ∀ (xs : List ι), (∀ x ∈ xs, ∃ e1, bindT tg (v x) e = some e1 ∧ t e1 S = .ok (p x) S ∧ (p x = true → f e1 S = .ok (g x) S)) →
    lcD tg (.tmp ys) t f e (xs.map v) S = .ok ((xs.filter p).map g) S
  | [], _ => by
    rw [List.map_nil, lcD_nil, if_pos (show (Src.tmp ys).ok S from trivial)]
    rfl
  | x :: xs, h => by
    obtain ⟨e1, q1, q2, q3⟩ := h x List.mem_cons_self
    rw [List.map_cons, lcD_cons, if_pos (show (Src.tmp ys).ok S from trivial), q1]
    simp only [q2, nox_ok, Res.bind_ok]
    have ih := lc_map (ys := ys) v p g xs fun y hy => h y (List.mem_cons_of_mem _ hy)
    cases hp : p x with
    | true => simp only [q3 hp, if_true, nox_ok, Res.bind_ok, ih, List.filter_cons_of_pos hp, List.map_cons]
    | false =>
      rw [if_neg Bool.false_ne_true, ih, List.filter_cons_of_neg (by simp [hp])]
theorem lc_all {ι : Type} {ys : List D} (v : ι → D) (g : ι → D) (xs : List ι) (h : ∀ x ∈ xs, ∃ e1, bindT tg (v x) e = some e1 ∧ f e1 S = .ok (g x) S) : lcD tg (.tmp ys) tYesD f e (xs.map v) S = .ok (xs.map g) S := by
  have := lc_map (t := tYesD) (f := f) (ys := ys) v (fun _ => true) g xs fun x hx => by
    obtain ⟨e1, q1, q2⟩ := h x hx
    exact ⟨e1, q1, rfl, fun _ => q2⟩
  rw [this, List.filter_eq_self.mpr fun _ _ => rfl]
/-- a comprehension that changes the store -/
theorem lc_inv {ys : List D} (I : Nat → Sto → List D → Prop) : ∀ (xs : List D) (k : Nat) (S : Sto) (acc : List D), I k S acc →
    (∀ (n : Nat) (S : Sto) (acc : List D) (x : D), xs[n]? = some x → I (k + n) S acc → ∃ e1 d S', bindT tg x e = some e1 ∧ f e1 S = .ok d S' ∧ I (k + n + 1) S' (acc ++ [d])) →
    ∃ ds S', lcD tg (.tmp ys) tYesD f e xs S = .ok ds S' ∧ I (k + xs.length) S' (acc ++ ds)
  | [], k, S, acc, h0, _ => ⟨[], S, by rw [lcD_nil, if_pos (show (Src.tmp ys).ok S from trivial)], by simpa using h0⟩
  | x :: xs, k, S, acc, h0, h => by
    obtain ⟨e1, d, S1, q1, q2, h1⟩ := h 0 S acc x rfl h0
    obtain ⟨ds, S2, q3, h2⟩ := lc_inv (ys := ys) I xs (k + 1) S1 (acc ++ [d]) h1 fun n S acc y hy hI => by
      have := h (n + 1) S acc y (by simpa using hy)
      rw [show k + (n + 1) = k + 1 + n by omega] at this
      exact this hI
    refine ⟨d :: ds, S2, ?_, by rw [List.length_cons, show k + (xs.length + 1) = k + 1 + xs.length by omega]; simpa using h2⟩
    rw [lcD_cons, if_pos (show (Src.tmp ys).ok S from trivial), q1]
    simp only [ap_yes, nox_ok, Res.bind_ok, if_true, q2, q3]
end
@[simp] theorem rngD_len {lo hi : Int} : (rngD lo hi).length = (hi - lo).toNat := by simp [rngD]
theorem rngD_get {lo hi : Int} {n : Nat} {x : D} (h : (rngD lo hi)[n]? = some x) : x = .int (lo + n) ∧ lo + n < hi := by
  unfold rngD at h
  have hn : n < (hi - lo).toNat := by
    have := (List.getElem?_eq_some_iff.mp h).1
    simpa using this
  rw [List.getElem?_map, List.getElem?_range hn] at h
  exact ⟨(Option.some.inj h).symm, by omega⟩
@[simp] theorem srcR1_ap {j : Int} {S : Sto} : srcR1 [.int j] S = if Rg62 j then .ok (.tmp (rngD 0 j)) S else .bad := id rfl
@[simp] theorem srcR2_ap {i j : Int} {S : Sto} : srcR2 [.int i, .int j] S = if Rg62 i ∧ Rg62 j then .ok (.tmp (rngD i j)) S else .bad := id rfl
theorem FitMul.left {i j : Int} (h1 : -18446744073709551616 < i) (h2 : i < 18446744073709551616) : FitMul i j := .inl ⟨by omega, by omega⟩
theorem FitMul.right {i j : Int} (h1 : -18446744073709551616 < j) (h2 : j < 18446744073709551616) : FitMul i j := .inr (.inl ⟨by omega, by omega⟩)
theorem bits_le {i : Int} {b : Nat} (h : i.natAbs < 2 ^ b) : Builtin.Int.intBits i ≤ b := by
  unfold Builtin.Int.intBits
  split
  · omega
  · rename_i hz
    have hn : i.natAbs ≠ 0 := fun e => hz (by have : i = 0 := Int.natAbs_eq_zero.mp e; subst this; rfl)
    have := (Nat.log2_lt hn).mpr h
    omega
theorem PowOk.of {i j : Int} {b : Nat} (h : i.natAbs < 2 ^ b) (h0 : 0 ≤ j) (hb : (b : Int) * j ≤ 134217728) : PowOk i j := by
  refine ⟨h0, ?_⟩
  have h1 := bits_le h
  have : (Builtin.Int.intBits i : Int) * j ≤ (b : Int) * j := Int.mul_le_mul_of_nonneg_right (by omega) h0
  omega
theorem pw18 : PowOk 10 18 := by decide
theorem pw57 : PowOk 10 57 := by decide
theorem pw59 : PowOk 10 59 := by decide
theorem powD_ok {i j : Int} {S : Sto} (h : PowOk i j) : powD (.int i) (.int j) S = .ok (.int (i ^ j.toNat)) S := if_pos h
theorem mulD_ok {i j : Int} {S : Sto} (h : FitMul i j) : mulD (.int i) (.int j) S = .ok (.int (i * j)) S := if_pos h
theorem p10_18 {S : Sto} : powD (.int 10) (.int 18) S = .ok (.int 1000000000000000000) S := powD_ok pw18
theorem p10_57 {S : Sto} : powD (.int 10) (.int 57) S = .ok (.int (10 ^ 57)) S := powD_ok pw57
theorem p10_59 {S : Sto} : powD (.int 10) (.int 59) S = .ok (.int (10 ^ 59)) S := powD_ok pw59
theorem mul_lt {i j : Int} {a b : Int} (h1 : 0 ≤ i) (h2 : i < a) (h3 : 0 ≤ j) (h4 : j < b) : i * j < a * b := by
  have h5 : i * j ≤ i * b := Int.mul_le_mul_of_nonneg_left (by omega) h1
  have h6 : i * b < a * b := Int.mul_lt_mul_of_pos_right h2 (by omega)
  omega
end Pu
set_option Elab.async false
set_option linter.all false
set_option maxRecDepth 100000
namespace Pu
open PySem PySem.Spec PyProof.Rows L2
/-- data of one kind: f tells them, n bounds their depth -/
structure Rp {α : Type} (f : α → D) (n : Nat) : Prop where
  eqv : ∀ x y, PyData.eqv (f x).py (f y).py = true ↔ x = y
  lay : ∀ x, (f x).py.canLay0 = true
  dep : ∀ x, (f x).py.depth ≤ n
  flat : ∀ x S, pyOf S (f x) = (f x).py
  gnd : ∀ x, (f x).gnd = true
theorem Rp.int : Rp D.int 0 := ⟨fun x y => by simp [D.py, PyData.eqv], fun _ => rfl, fun _ => Nat.le_refl _, fun _ _ => rfl, fun _ => rfl⟩
theorem Rp.bl : Rp D.bl 0 := ⟨fun x y => by cases x <;> cases y <;> decide, fun _ => rfl, fun _ => Nat.le_refl _, fun _ _ => rfl, fun _ => rfl⟩
/-- a row of two -/
noncomputable def prD {α β : Type} (f : α → D) (g : β → D) (p : α × β) : D := .tup [f p.1, g p.2]
noncomputable def tpD {α : Type} (f : α → D) (xs : List α) : D := .tup (xs.map f)
noncomputable def lsD {α : Type} (f : α → D) (xs : List α) : D := .lst (xs.map f)
theorem Rp.pr {α β : Type} {f : α → D} {g : β → D} {n m : Nat} (hf : Rp f n) (hg : Rp g m) : Rp (prD f g) (max n m + 1) := ⟨fun x y => by
    obtain ⟨a, b⟩ := x
    obtain ⟨c, d⟩ := y
    simp [prD, D.py, pys, PyData.eqv, PyData.eqvAll, hf.eqv, hg.eqv], fun x => by
    simp [prD, D.py, pys, PyData.canLay0, PyData.canLayAll0, hf.lay, hg.lay], fun x => by
    have h1 := hf.dep x.1
    have h2 := hg.dep x.2
    simp only [prD, D.py, pys, PyData.depth, PyData.depthAll]
    omega, fun _ _ => rfl, fun x => by
    simp [prD, hf.gnd, hg.gnd]⟩
theorem eqvs {α : Type} {f : α → D} {n : Nat} (hf : Rp f n) : ∀ xs ys : List α, PyData.eqvAll (pys (xs.map f)) (pys (ys.map f)) = true ↔ xs = ys
  | [], [] => by simp [pys, PyData.eqvAll]
  | [], _ :: _ => by simp [pys, PyData.eqvAll]
  | _ :: _, [] => by simp [pys, PyData.eqvAll]
  | x :: xs, y :: ys => by
    simp [pys, PyData.eqvAll, hf.eqv, eqvs hf xs ys]
theorem lays {α : Type} {f : α → D} {n : Nat} (hf : Rp f n) : ∀ xs : List α, PyData.canLayAll0 (pys (xs.map f)) = true
  | [] => rfl
  | x :: xs => by simp [pys, PyData.canLayAll0, hf.lay, lays hf xs]
theorem deps {α : Type} {f : α → D} {n : Nat} (hf : Rp f n) : ∀ xs : List α, PyData.depthAll (pys (xs.map f)) ≤ n
  | [] => Nat.zero_le _
  | x :: xs => by
    have h1 := hf.dep x
    have h2 := deps hf xs
    simp only [List.map_cons, pys, PyData.depthAll]
    omega
theorem Rp.tp {α : Type} {f : α → D} {n : Nat} (hf : Rp f n) : Rp (tpD f) (n + 1) := ⟨fun x y => by
    simp only [tpD, D.py, PyData.eqv]
    exact eqvs hf x y, fun x => by
    simp only [tpD, D.py, PyData.canLay0]
    exact lays hf x, fun x => by
    have := deps hf x
    simp only [tpD, D.py, PyData.depth]
    omega, fun _ _ => rfl, fun x => by
    simp [tpD, gnds_map hf.gnd]⟩
theorem Rp.ls {α : Type} {f : α → D} {n : Nat} (hf : Rp f n) : Rp (lsD f) (n + 1) := ⟨fun x y => by
    simp only [lsD, D.py, PyData.eqv]
    exact eqvs hf x y, fun x => by
    simp only [lsD, D.py, PyData.canLay0]
    exact lays hf x, fun x => by
    have := deps hf x
    simp only [lsD, D.py, PyData.depth]
    omega, fun _ _ => rfl, fun x => by
    simp [lsD, gnds_map hf.gnd]⟩
theorem Rp.shp {α : Type} {f : α → D} {n : Nat} (hf : Rp f n) (h : n ≤ 64) (x : α) (S : Sto) : Pu.shp S (f x) = true := by
  have := hf.dep x
  unfold Pu.shp SeqAt.shaped
  rw [hf.flat, hf.lay]
  simp
  omega
theorem Rp.eqB {α : Type} [DecidableEq α] {f : α → D} {n : Nat} (hf : Rp f n) (x y : α) (S : Sto) : Pu.eqB S (f x) (f y) = decide (x = y) := by
  unfold Pu.eqB
  rw [hf.flat, hf.flat]
  rw [Bool.eq_iff_iff, hf.eqv]
  simp
theorem Rp.eq {α : Type} [DecidableEq α] {f : α → D} {n : Nat} (hf : Rp f n) (h : n ≤ 64) (x y : α) (S : Sto) : eqD false (f x) (f y) S = .ok (.bl (decide (x = y))) S := by
  simp [eqD, hf.shp h, hf.eqB]
theorem Rp.ne {α : Type} [DecidableEq α] {f : α → D} {n : Nat} (hf : Rp f n) (h : n ≤ 64) (x y : α) (S : Sto) : eqD true (f x) (f y) S = .ok (.bl (!decide (x = y))) S := by
  simp [eqD, hf.shp h, hf.eqB]
@[simp] theorem eqD_int {i j : Int} {S : Sto} : eqD false (.int i) (.int j) S = .ok (.bl (decide (i = j))) S := Rp.int.eq (by decide) i j S
@[simp] theorem neD_int {i j : Int} {S : Sto} : eqD true (.int i) (.int j) S = .ok (.bl (!decide (i = j))) S := Rp.int.ne (by decide) i j S
/-- a list of the store beside data -/
theorem pyOf_ref {S : Sto} {k : Nat} {xs : List D} (h : S[k]? = some (.lst xs)) : pyOf S (.ref k) = (D.lst xs).py := by
  simp [pyOf, h, D.py]
theorem neR_nil {α : Type} {f : α → D} {n : Nat} (hf : Rp f n) (hn : n < 64) {S : Sto} {k : Nat} {xs : List α} (h : S[k]? = some (.lst (xs.map f))) : eqD true (.ref k) (.lst []) S = .ok (.bl (!xs.isEmpty)) S := by
  have h1 : shp S (.ref k) = true := by
    have := hf.ls.shp (by omega) xs S
    unfold shp at this ⊢
    rw [pyOf_ref h]
    rw [hf.ls.flat] at this
    exact this
  have h2 : shp S (.lst []) = true := hf.ls.shp (by omega) [] S
  have h3 : eqB S (.ref k) (.lst []) = xs.isEmpty := by
    unfold eqB
    rw [pyOf_ref h, show pyOf S (.lst []) = (lsD f []).py from rfl]
    rw [Bool.eq_iff_iff, show D.lst (xs.map f) = lsD f xs from rfl, hf.ls.eqv]
    simp
  simp [eqD, h1, h2, h3]
theorem frz_ref {S S' : Sto} {k : Nat} {xs : List D} (hc : Clo S S') (hk : S.length ≤ k) (h : S'[k]? = some (.lst xs)) (hx : gnds xs = true) : fin .frz S (.ref k) S' = .ok (.lst xs) (S'.take S.length) := by
  have h1 : allSome (xs.map (frzV S.length S' 5)) = some xs := by
    have : ∀ ys : List D, gnds ys = true → allSome (ys.map (frzV S.length S' 5)) = some ys := by
      intro ys
      induction ys with
      | nil => intro _; rfl
      | cons y ys ih =>
        intro hy
        have h' : y.gnd = true ∧ gnds ys = true := by simpa using hy
        have e : frzV S.length S' 5 y = some y := by
          unfold frzV
          rw [if_pos (gnd_below _ y h'.1)]
        simp only [List.map_cons, e, allSome, ih h'.2, Option.map_some]
    exact this xs hx
  simp only [fin]
  rw [if_pos hc]
  unfold frzV
  rw [if_neg (by simp [D.bel]; omega)]
  simp only [h, h1, Option.map_some]
  rfl
noncomputable def Dg (S : Sto) (k : Nat) (x : Int) : Sto := S.set k (.lst [.int x])
section
variable {S T : Sto} {k j : Nat} {x y : Int}
@[simp] theorem Dg_len : (Dg S k x).length = S.length := by simp [Dg]
theorem Dg_at (h : k < S.length) : (Dg S k x)[k]? = some (.lst [.int x]) := by simp [Dg, h]
theorem Dg_ne (h : j ≠ k) : (Dg S k x)[j]? = S[j]? := by simp [Dg, Ne.symm h]
theorem Dg_set : (Dg S k x).set k (.lst [.int y]) = Dg S k y := by simp [Dg]
theorem Dg_app (h : k < S.length) : Dg S k x ++ T = Dg (S ++ T) k x := by simp [Dg, List.set_append, h]
theorem Dg_comm {o : DO} (h : j ≠ k) : (Dg S k x).set j o = Dg (S.set j o) k x := by
  unfold Dg
  rw [List.set_comm _ _ (Ne.symm h)]
theorem Dg_of (h : S[k]? = some (.lst [.int x])) : Dg S k x = S := by
  unfold Dg
  apply List.ext_getElem?
  intro i
  by_cases hi : k = i
  · subst hi
    rw [List.getElem?_set_self (List.getElem?_eq_some_iff.mp h).1, h]
  · rw [List.getElem?_set_ne hi]
/-- what a def hands back that drew and made one list -/
theorem Dg_clo (h : k < S.length) : Clo (Dg S k x) (Dg S k y ++ T) := by
  have := Clo.set (S := Dg S k x) (T := T) (k := k) (o := .lst [.int y]) (by simp)
  rw [Dg_set] at this
  exact this
theorem fin_dg {d : D} (h : k < S.length) (hd : d.gnd = true) : fin .frz (Dg S k x) d (Dg S k y ++ T) = .ok d (Dg S k y) := by
  rw [fin_frz (Dg_clo h) hd]
  have : (Dg S k x).length = (Dg S k y).length := by simp
  rw [this, List.take_left]
theorem fin_dg0 {d : D} (h : k < S.length) (hd : d.gnd = true) : fin .frz (Dg S k x) d (Dg S k y) = .ok d (Dg S k y) := by
  have := fin_dg (x := x) (y := y) (T := []) h hd
  simpa using this
theorem fin_dgR {xs : List D} {n : Nat} (h : k < S.length) (hn : n = S.length) (hx : gnds xs = true) : fin .frz (Dg S k x) (.ref n) (Dg (S ++ [.lst xs]) k y) = .ok (.lst xs) (Dg S k y) := by
  subst hn
  rw [← Dg_app h, frz_ref (xs := xs) (Dg_clo h) (by simp) (by simp) hx]
  have : (Dg S k x).length = (Dg S k y).length := by simp
  rw [this, List.take_left]
end
theorem sz {n : Nat} (h : n < 1048576) : n < sizeLine := Nat.lt_of_lt_of_le h (by unfold sizeLine; decide +kernel)
theorem set_last {S : Sto} {o p : DO} : (S ++ [o]).set S.length p = S ++ [p] := by simp
theorem last_at {S : Sto} {o : DO} : (S ++ [o])[S.length]? = some o := by simp
theorem Dg_last {S : Sto} {o : DO} {k : Nat} {z : Int} (h : k < S.length) : (Dg (S ++ [o]) k z)[S.length]? = some o := by
  rw [Dg_ne (by omega), last_at]
theorem rg {n : Nat} (h : n < 1048576) : Rg62 (n : Int) := by
  unfold Rg62
  omega
theorem forR1 {dead : List Nat} {tg : Tg} {f : Ev D} {a : Stm} {e : En} {S : Sto} {n : Nat} (hf : f e S = .ok (.int n) S) (h : n < 1048576) : sFor dead tg (iR1 f) a e S = forD dead tg (.tmp (rngD 0 n)) a (rngD 0 n) e S := by
  rw [ap_For, ap_iR1, hf, Res.bind_ok, srcR1_ap, if_pos (rg h), Res.stm_ok]
  rfl
end Pu
set_option Elab.async false
set_option linter.all false
set_option maxRecDepth 100000
namespace Pu
open PySem PySem.Spec PyProof.Rows L2
theorem list_set0 {α : Type} {x y : α} {xs : List α} : (x :: xs).set 0 y = y :: xs := rfl
theorem list_setS {α : Type} {x y : α} {xs : List α} {n : Nat} : (x :: xs).set (n + 1) y = x :: xs.set n y := rfl
theorem rep_0 {α : Type} {x : α} : List.replicate 0 x = [] := rfl
theorem rep_S {α : Type} {x : α} {n : Nat} : List.replicate (n + 1) x = x :: List.replicate n x := rfl
theorem obs {α β : Type} {a : α} {f : α → Option β} : (some a).bind f = f a := rfl
theorem iftr {α : Type} {a b : α} : (if (true = true) then a else b) = a := rfl
theorem iffa {α : Type} {a b : α} : (if (false = true) then a else b) = b := rfl
theorem ifT {α : Type} {a b : α} : (if True then a else b) = a := if_pos trivial
theorem ifF {α : Type} {a b : α} : (if False then a else b) = b := if_neg not_false
noncomputable def goA := And.intro @ap_C (And.intro @ap_Var0 (And.intro @ap_VarS (And.intro @ap_1 (And.intro @ap_2 (And.intro @ap_TB (And.intro @ap_Ch (And.intro @ap_tAnd (And.intro @ap_tOr (And.intro @ap_tNot (And.intro @ap_eAnd (And.intro @ap_eOr (And.intro @ap_eNot (And.intro @ap_eIf (And.intro @ap_Tr (And.intro @ap_Args0 (And.intro @ap_Args (And.intro @ap_Tup (And.intro @ap_Call (And.intro @ap_Fn (And.intro @ap_nLst (And.intro @ap_nDct0 (And.intro @ap_Ano (And.intro @ap_New (And.intro @ap_M (And.intro @ap_Sl (And.intro @ap_pN (And.intro @ap_pE @ap_yes)))))))))))))))))))))))))))
noncomputable def goB := And.intro @ap_Set (And.intro @ap_Ret (And.intro @ap_Expr (And.intro @ap_Next (And.intro @ap_Brk (And.intro @ap_Seq (And.intro @ap_If (And.intro @ap_St (And.intro @ap_Asg (And.intro @ap_Aug (And.intro @ap_Fgt (And.intro @fgt_next (And.intro @fgt_ret (And.intro @fgt_brk (And.intro @wipe_nil (And.intro @wipe_cons (And.intro @bindT_nm (And.intro @bindT_tp (And.intro @bindT_tpi (And.intro @bindTs_nil @bindTs_cons)))))))))))))))))))
noncomputable def goC := And.intro @Res.bind_ok (And.intro @Res.stm_ok (And.intro @SRes.seq_next (And.intro @SRes.seq_ret (And.intro @SRes.seq_brk (And.intro @opt_some (And.intro @toB_bl (And.intro @aft_next (And.intro @aft_cnt (And.intro @aft_brk (And.intro @aft_ret (And.intro @retD_ret (And.intro @retD_next (And.intro @anoD_lst (And.intro @anoD_dct (And.intro @truD_bl (And.intro @truD_int (And.intro @list_set0 (And.intro @list_setS (And.intro @rep_0 (And.intro @rep_S (And.intro @obs (And.intro @iftr (And.intro @iffa (And.intro @ifT @ifF))))))))))))))))))))))))
noncomputable def goS := And.intro goA (And.intro goB goC)
section
variable {a b : Int} {S : Sto}
theorem subD_i : subD (.int a) (.int b) S = .ok (.int (a - b)) S := rfl
theorem ltD_i : ltD (.int a) (.int b) S = .ok (.bl (decide (a < b))) S := rfl
theorem leD_i : leD (.int a) (.int b) S = .ok (.bl (decide (a ≤ b))) S := rfl
theorem gtD_i : gtD (.int a) (.int b) S = .ok (.bl (decide (b < a))) S := rfl
theorem geD_i : geD (.int a) (.int b) S = .ok (.bl (decide (b ≤ a))) S := rfl
end
/-- what the numbers do -/
noncomputable def goI := And.intro @addD_int (And.intro @subD_i (And.intro @ltD_i (And.intro @leD_i (And.intro @gtD_i (And.intro @geD_i (And.intro @negD_int (And.intro @eqD_int (And.intro @neD_int (And.intro @int1_int (And.intro @int1_bl (And.intro @lenD_tup (And.intro @lenD_lst (And.intro @lenD_fls (And.intro @ixD_tup (And.intro @ixD_lst @ixD_fls)))))))))))))))
/-- the start -/
noncomputable def go0 := And.intro @startE_a1 (And.intro @startE_a2 (And.intro @startE_a3 @startE_a4))
end Pu
set_option Elab.async false
set_option linter.all false
set_option maxRecDepth 100000
namespace Pu
open PySem PySem.Spec PyProof.Rows L2
end Pu
set_option Elab.async false
set_option linter.all false
set_option maxRecDepth 100000
namespace L2
open PySem PySem.Spec PyProof.Rows
/-- sorted(d), keys that are ints -/
noncomputable def rSortedDX (K : PySem.W.Frag) : List V → Hp → VK → Prop := fun xs H Q => ∃ (a : Addr) (kvs : List (Key × V)) (ks : List Int), xs = [.ref a] ∧ Rd H a (.dK kvs) ∧ kvs.map (·.1) = ks.map Sum.inl ∧ ks.length < 100000 ∧
  ∀ (ys : List Int) (p : Addr), ys.Perm ks → ys.Pairwise (· ≤ ·) → H p = none → Q (.ref p) (upd H p (.lst (ys.map V.int)))
theorem call_sortedDX {X : Cx} (hcalm : X.calm = true) : CallR X (.builtin "sorted") (rSortedDX X.K) := by
  intro pins s σ H xs us Q I r q
  obtain ⟨a, kvs, ks, rfl, hd, hks, h64, q⟩ := q
  rw [Vals.ref1 r]
  obtain ⟨z, lo, vs, rel, dd⟩ := dk_rd I.hok hd
  obtain ⟨ep, hat⟩ := dd.dictAt
  have keys2 : vs.map (·.1) = ks.map Sum.inl := rel.keys.symm.trans hks
  have hl : vs.length = ks.length := by simpa using congrArg List.length keys2
  have h16 : vs.length ≤ sizeLine := by rw [hl, sizeLine_eq]; omega
  refine Calls.call_function_entry kind_sorted plain_sorted entry_sorted (args_sorted1 (.ref a)) (by
    unfold Builtin.«sorted»
    refine wpAny_bind (m := checkCount "sorted" 1 1 _) (wpAny_pure (wpAny_bind (PySem.W.kdu_collect (A := X.A.in1) (PySem.W.kdl_dict (knd := mixKind X.prog X.w) (kvs := vs) (ep := ep) lo) (I.ok.hd hcalm) hat h16 fun h' tk acc hk hacc => ?_)))
    have al : acc.toList.length = ks.length := by rw [Array.length_toList, hacc.1, hl]
    have aI : IntsAre acc.toList ks := ints_each al fun j v e => by
      obtain ⟨k, x, e1, e2⟩ := hacc.2 j v (by rw [← Array.getElem?_toList]; exact e)
      have e3 : (vs.map (·.1))[j]? = some k := by rw [List.getElem?_map, e1]; rfl
      rw [keys2, List.getElem?_map, Option.map_eq_some_iff] at e3
      obtain ⟨y, e4, rfl⟩ := e3
      rcases keyIs_shape (show keyIs (Sum.inl y) v = true from e2) with ⟨i, t, ek, ev⟩ | ⟨z, t, ek, ev⟩
      · cases ek
        exact ⟨y, t, e4, ev⟩
      · cases ek
    have vz : acc.toList.length ≤ sizeLine := by rw [al, sizeLine_eq]; omega
    refine wpAny_bind (wpAny_newList ?_ vz)
    have at1 : (h'.push (seqObj "list" acc.toList.toArray 0)).get? h'.objs.size = some (seqObj "list" acc.toList.toArray 0) := Heap.get?_push_size _ rfl
    refine wpAny_bind (wpAny_holding (wpAny_call_entry slot_list_sort ⟨_, at1, rfl⟩ entry_list_sort (SrtO.list_sort_ord SrtO.swo_int at1 vz (fun h2 => SrtO.ints_sortable aI h2) fun out hs hb => ⟨_, rfl, ?_⟩) (args_list_sort _)))
    obtain ⟨z1, z2, z3⟩ := SrtO.ints_out aI hs hb
    obtain ⟨c, hc⟩ : ∃ n, (sortedHeap (h'.push (seqObj "list" acc.toList.toArray 0)) h'.objs.size acc.toList out.toArray).get? h'.objs.size = some (seqObj "list" out.toArray n) := sortedHeap_at at1
    have I1 : Inv X pins σ H { s with heap := h', toks := tk } := I.kept hk
    have le : ((out.map SrtO.iv).map V.int).length ≤ sizeLine := by rw [List.length_map, z2.length_eq, sizeLine_eq]; omega
    refine wpAny_pure ⟨_, rfl, .ref h'.objs.size, upd H h'.objs.size (.lst ((out.map SrtO.iv).map V.int)), I1.laid (t' := tk) (fun b u e => ?_) (Nat.le_refl _) ⟨le, out, c, vals_of_ints z1, hc⟩, rfl, q _ _ z2 z3 (I1.hok.fresh (Nat.le_refl _))⟩
    have lt : b < h'.objs.size := Heap.lt_size e
    rw [show (sortedHeap (h'.push (seqObj "list" acc.toList.toArray 0)) h'.objs.size acc.toList out.toArray).get? b = (h'.push (seqObj "list" acc.toList.toArray 0)).get? b from sortedHeap_old (Nat.ne_of_lt lt) (by rw [size_push']; exact Nat.lt_succ_of_lt lt)]
    exact Heap.get?_push_of_some _ e)
end L2
set_option Elab.async false
set_option linter.all false
set_option maxRecDepth 100000
namespace Pu
open PySem PySem.Spec PyProof.Rows L2
/-- rising with repeats -/
noncomputable def insI (k : Int) : List Int → List Int
  | [] => [k]
  | x :: xs => if k ≤ x then k :: x :: xs else x :: insI k xs
noncomputable def sortI (ns : List Int) : List Int := ns.foldr insI []
theorem perm_insI {k : Int} : ∀ {xs : List Int}, (insI k xs).Perm (k :: xs)
  | [] => .refl _
  | x :: xs => by
    unfold insI
    split
    · exact .refl _
    · exact ((perm_insI (k := k) (xs := xs)).cons x).trans (.swap k x xs)
theorem pw_insI {k : Int} : ∀ {xs : List Int}, xs.Pairwise (· ≤ ·) → (insI k xs).Pairwise (· ≤ ·)
  | [], _ => by simp [insI]
  | x :: xs, h => by
    obtain ⟨h1, h2⟩ := List.pairwise_cons.mp h
    unfold insI
    split
    · rename_i hk
      refine List.pairwise_cons.mpr ⟨fun y hy => ?_, h⟩
      rcases List.mem_cons.mp hy with e | hy
      · omega
      · have := h1 y hy; omega
    · refine List.pairwise_cons.mpr ⟨fun y hy => ?_, pw_insI h2⟩
      rcases List.mem_cons.mp (perm_insI.mem_iff.mp hy) with e | hy
      · omega
      · exact h1 y hy
theorem perm_sortI : ∀ ns : List Int, (sortI ns).Perm ns
  | [] => .refl _
  | n :: ns => perm_insI.trans ((perm_sortI ns).cons n)
theorem pw_sortI : ∀ ns : List Int, (sortI ns).Pairwise (· ≤ ·)
  | [] => List.Pairwise.nil
  | n :: ns => pw_insI (pw_sortI ns)
theorem uniq_le {xs ys : List Int} (hx : xs.Pairwise (· ≤ ·)) (hy : ys.Pairwise (· ≤ ·)) (h : xs.Perm ys) : xs = ys :=
  h.eq_of_pairwise (le := (· ≤ ·)) (fun a b _ _ h1 h2 => by omega) hx hy
/-- set(xs) -/
noncomputable def rSetL (K : PySem.W.Frag) (w : World) : List V → Hp → VK → Prop := fun vs H Q => ∃ (a : Addr) (ns : List Int), vs = [V.ref a] ∧ SqL K H a (ns.map V.int) ∧ ns.length < 4095 ∧
  ∀ (p : Addr) (c : Nat), c ≤ ns.length → H p = none → Q (.ref p) (upd H p (SetO w p (fun j => decide (j ∈ ns)) c))
noncomputable def nSortI (f : Ev D) : Ev DO := fun e S => (f e S).bind fun d S => match (lsOf S d).bind intsL with
  | some ns => .ok (.lst ((sortI ns).map D.int)) S
  | none => .bad
theorem VRs.ints_map {K : PySem.W.Frag} {am : AM} {H : Hp} : ∀ ns : List Int, VRs K am H (ns.map D.int) (ns.map V.int)
  | [] => .nil
  | n :: ns => .cons (.int n) (VRs.ints_map ns)
section
variable {cl : Str → Addr} {W : WX} {X : Cx} {a : Expr} {f : Ev D} {p p2 pos pos2 : Pos} {x y : Str}
theorem qn_sortI (hg : Gl X "sorted") (hm : X.mg "sorted" = none) (ha : QE cl W X a f)
    (h0 : starEach [a] X.env = (false, eval a X.env) :: starEach [] X.env := by rfl) (hpl : (backTo pos (starEach [] X.env)).any (·.1) = false := by rfl) :
    QN cl W X (.Call (.Name "sorted" p) [a] [] pos) (nSortI f) :=
  (pe_callB cr_sortedI hg hm (by decide +kernel) (pa_cons ha pa_nil h0) (by decide) (by decide) h0 hpl).imp fun σ H Q ⟨am, e, S, rs, re, q0⟩ =>
    ⟨am, e, S, rs, re, (PostN.step q0).imp fun v H1 ⟨am1, S1, d, _, g1, rs1, rv, q1⟩ => by
      cases e1 : (lsOf S1 d).bind intsL with
      | none => rw [e1] at q1; exact q1.elim
      | some ns =>
        rw [e1] at q1
        cases e2 : lsOf S1 d with
        | none => rw [e2] at e1; cases e1
        | some xs =>
          rw [e2, Option.bind_some] at e1
          obtain ⟨l, us, ev, h2, h3⟩ := lsOf_ok rs1 rv e2
          subst ev
          have h4 := ints_ok h3 e1
          subst h4
          refine ⟨l, ns, rfl, h2, fun ns' p' hp hs hp' => ?_⟩
          have en : ns' = sortI ns := uniq_le hs (pw_sortI ns) (hp.trans (perm_sortI ns).symm)
          subst en
          exact PostN.laid q1 g1 rs1 hp' ⟨_, upd_same, VRs.ints_map _⟩⟩
end
end Pu
set_option Elab.async false
set_option linter.all false
set_option maxRecDepth 100000
namespace Pu
open PySem PySem.Spec PyProof.Rows L2
section
variable {P : Program} {w : World} {A : Around} {E : Value → Shared → Prop} {s : Shared}
theorem sorted_sq {t : Addr} {T : String} {o : Obj} {n : Nat} {vs : List Value} {k : Value → Int × Int} {R : Value → Shared → Prop} (hT : T = "list" ∨ T = "tuple") (ho : s.heap.get? t = some o) (hc : o.cls = .type T) (hd : o.data = .seq vs.toArray n) (hz : vs.length ≤ sizeLine)
    (hp : ∀ v ∈ vs, Srt.IsPair s.heap v (k v).1 (k v).2)
    (q : ∀ (g : Heap) (d : Addr) (out : List Value), SrtO.Srtd (fun v u => SrtO.lexB (k v) (k u)) out → SrtO.Stb (fun v u => SrtO.lexB (k v) (k u)) out vs → (∀ b o, s.heap.get? b = some o → g.get? b = some o) → s.heap.get? d = none → (∃ n, g.get? d = some (seqObj "list" out.toArray n)) → R (.ref d) { s with heap := g }) :
    wpAny (model P w) A (call (.builtin "sorted") [.ref t]) R E s := by
  refine Calls.call_function_entry kind_sorted plain_sorted entry_sorted (args_sorted1 (.ref t)) (by
    unfold Builtin.«sorted»
    refine wpAny_bind (m := checkCount "sorted" 1 1 _) (wpAny_pure (wpAny_bind (wpAny_collect_seq t hT ho hc hd (fun g hg => ?_) (by rw [List.size_toArray]; exact hz))))
    rw [List.toList_toArray]
    refine wpAny_bind (wpAny_newList ?_ hz)
    have at1 : (g.push (seqObj "list" vs.toArray 0)).get? g.objs.size = some (seqObj "list" vs.toArray 0) := Heap.get?_push_size _ rfl
    have kp : ∀ b o, s.heap.get? b = some o → b ≠ g.objs.size ∧ (g.push (seqObj "list" vs.toArray 0)).get? b = some o := fun b o e =>
      ⟨Nat.ne_of_lt (Heap.lt_size (hg b o e)), Heap.get?_push_of_some _ (hg b o e)⟩
    refine wpAny_bind (wpAny_holding (wpAny_call_entry slot_list_sort ⟨_, at1, rfl⟩ entry_list_sort (SrtO.list_sort_ord (SrtO.swo_lex k) at1 hz (fun h2 => SrtO.pairs_sortableO (by omega) (fun v hv => (hp v hv).keeps fun b o e _ => (kp b o e).2) fun o' e' => ?_) fun out hs hb => ⟨_, rfl, ?_⟩) (args_list_sort _)))
    · have e2 : some o' = some (seqObj "list" vs.toArray 0) := e'.symm.trans at1
      cases e2
      exact fun c => absurd (Value.type.inj c) (by decide)
    · have at2 : ∃ n, (sortedHeap (g.push (seqObj "list" vs.toArray 0)) g.objs.size vs out.toArray).get? g.objs.size = some (seqObj "list" out.toArray n) := sortedHeap_at at1
      refine wpAny_pure ⟨_, rfl, q _ g.objs.size out hs hb (fun b o e => ?_) ?_ at2⟩
      rotate_left
      · cases e : s.heap.get? g.objs.size with
        | none => rfl
        | some o' => exact absurd rfl (kp _ _ e).1
      obtain ⟨k1, k2⟩ := kp b o e
      rw [sortedHeap_old k1 (Heap.lt_size k2)]
      exact k2)
end
theorem obj_there {P : Program} {w : World} {H : Hp} {h : Heap} {a : Addr} {o : HO} (x : ObjOk P w H h a o) : ∃ u, h.get? a = some u := by
  cases o with
  | lst xs => obtain ⟨_, _, _, _, e⟩ := x; exact ⟨_, e⟩
  | tup xs => obtain ⟨_, _, _, _, e, _⟩ := x; exact ⟨_, e⟩
  | dK kvs => obtain ⟨_, _, _, _, o, _, _, e, _⟩ := x; exact ⟨_, e⟩
  | dT kvs => obtain ⟨_, _, _, _, o, _, _, e, _⟩ := x; exact ⟨_, e⟩
  | set S n => obtain ⟨o, _, _, _, e, _⟩ := x; exact ⟨_, e⟩
  | ins C dx fs => obtain ⟨_, _, _, e, _⟩ := x; exact ⟨_, e⟩
  | own y => exact x
  | xd fs => obtain ⟨_, ⟨_, _, _, e, _⟩, _⟩ := x; exact ⟨_, e⟩
  | rng lo hi => obtain ⟨_, _, _, e⟩ := x; exact ⟨_, e⟩
  | frz ob u => obtain ⟨e, _⟩ := x; exact ⟨_, e⟩
  | tbl ps => exact ⟨_, x⟩
  | met f y => exact ⟨_, x⟩
  | ext φ => exact x.2.1
noncomputable def insP (k : Int × Int) : List (Int × Int) → List (Int × Int)
  | [] => [k]
  | x :: xs => if SrtO.lexB x k = true then x :: insP k xs else k :: x :: xs
noncomputable def sortP (ps : List (Int × Int)) : List (Int × Int) := ps.foldr insP []
theorem perm_insP {k : Int × Int} : ∀ {xs : List (Int × Int)}, (insP k xs).Perm (k :: xs)
  | [] => .refl _
  | x :: xs => by
    unfold insP
    split
    · exact ((perm_insP (k := k) (xs := xs)).cons x).trans (.swap k x xs)
    · exact .refl _
noncomputable abbrev leP (p q : Int × Int) : Prop := p.1 < q.1 ∨ (p.1 = q.1 ∧ p.2 ≤ q.2)
theorem leP_of {p q : Int × Int} (h : SrtO.lexB q p = false) : leP p q := by
  have := SrtO.lexB_no.mp h
  unfold leP
  omega
theorem leP_trans {p q r : Int × Int} (h : leP p q) (h' : leP q r) : leP p r := by
  unfold leP at *
  omega
theorem pw_insP {k : Int × Int} : ∀ {xs : List (Int × Int)}, xs.Pairwise leP → (insP k xs).Pairwise leP
  | [], _ => List.pairwise_singleton _ _
  | x :: xs, h => by
    obtain ⟨h1, h2⟩ := List.pairwise_cons.mp h
    unfold insP
    split
    · rename_i hk
      refine List.pairwise_cons.mpr ⟨fun y hy => ?_, pw_insP h2⟩
      rcases List.mem_cons.mp (perm_insP.mem_iff.mp hy) with e | hy
      · subst e
        have := SrtO.lexB_iff.mp hk
        unfold leP
        omega
      · exact h1 y hy
    · rename_i hk
      have hx : leP k x := leP_of (by simpa using hk)
      refine List.pairwise_cons.mpr ⟨fun y hy => ?_, h⟩
      rcases List.mem_cons.mp hy with e | hy
      · subst e; exact hx
      · exact leP_trans hx (h1 y hy)
theorem perm_sortP : ∀ ps : List (Int × Int), (sortP ps).Perm ps
  | [] => .refl _
  | n :: ns => perm_insP.trans ((perm_sortP ns).cons n)
theorem pw_sortP : ∀ ps : List (Int × Int), (sortP ps).Pairwise leP
  | [] => List.Pairwise.nil
  | n :: ns => pw_insP (pw_sortP ns)
theorem uniq_leP {xs ys : List (Int × Int)} (hx : xs.Pairwise leP) (hy : ys.Pairwise leP) (h : xs.Perm ys) : xs = ys :=
  h.eq_of_pairwise (le := leP) (fun a b _ _ h1 h2 => by
    obtain ⟨a1, a2⟩ := a
    obtain ⟨b1, b2⟩ := b
    simp only [leP] at h1 h2
    simp only [Prod.mk.injEq]
    omega) hx hy
/-- the pair that lies at a value -/
noncomputable def pairAt (h : Heap) (v : Value) : Int × Int := match v with
  | .ref t => match h.get? t with
    | some o => match o.data with
      | .seq xs _ => match xs.toList with
        | [.int i _, .int j _] => (i, j)
        | _ => (0, 0)
      | _ => (0, 0)
    | none => (0, 0)
  | _ => (0, 0)
noncomputable def rSortedPQ (K : PySem.W.Frag) : List V → Hp → VK → Prop := fun vs H Q => ∃ (a : Addr) (xs : List V) (ps : List (Int × Int)) (R : V → Int × Int → Prop), vs = [V.ref a] ∧ (SqL K H a xs ∨ SqT K H a xs) ∧ Paired R xs ps ∧ (∀ x p, R x p → ∃ t, x = V.ref t ∧ SqT K H t [.int p.1, .int p.2]) ∧
  ∀ ys q, Paired R ys (sortP ps) → H q = none → Q (.ref q) (upd H q (.lst ys))
theorem cr_sortedPQ {X : Cx} : CallR X (.builtin "sorted") (rSortedPQ X.K) := by
  intro pins s σ H vs us Q I r h
  obtain ⟨a, xs, ps, R, rfl, hs, hR, hx, q⟩ := h
  obtain ⟨u, rfl, ru⟩ := vals1 r
  obtain rfl : u = Value.ref a := ru
  have hsq : ∃ (its : List Value) (T : String) (o : Obj) (n : Nat), Vals xs its ∧ xs.length ≤ sizeLine ∧ (T = "list" ∨ T = "tuple") ∧ s.heap.get? a = some o ∧ o.cls = .type T ∧ o.data = .seq its.toArray n := by
    rcases hs with hs | hs
    · obtain ⟨its, rv, ⟨o, n, e, hc, _, hd⟩, hz⟩ := I.list hs
      exact ⟨its, "list", o, n, rv, hz, .inl rfl, e, hc, hd⟩
    · obtain ⟨its, rv, ⟨o, e, hc, n, hd⟩, hz⟩ := I.tuple hs
      exact ⟨its, "tuple", o, n, rv, hz, .inr rfl, e, hc, hd⟩
  obtain ⟨its, T, o, n, rv, hz, hT, ho, hc, hd⟩ := hsq
  have key : ∀ x p v, R x p → RelV x v → Srt.IsPair s.heap v p.1 p.2 ∧ x = backV v ∧ pairAt s.heap v = p ∧ ∃ t, v = Value.ref t := by
    intro x p v hxp hv
    obtain ⟨t, rfl, hq⟩ := hx x p hxp
    obtain rfl : v = Value.ref t := hv
    obtain ⟨its2, r2, ⟨o2, ho2, hc2, n2, hd2⟩, _⟩ := I.tuple hq
    obtain ⟨u1, u2, rfl, ri, rj⟩ := vals2 r2
    obtain ⟨t1, rfl⟩ := ri
    obtain ⟨t2, rfl⟩ := rj
    refine ⟨⟨t, o2, t1, t2, n2, rfl, ho2, hc2, hd2⟩, rfl, ?_, t, rfl⟩
    simp only [pairAt, ho2, hd2]
  have all : ∀ {xs : List V} {ps : List (Int × Int)} {its : List Value}, Paired R xs ps → Vals xs its → its.map (pairAt s.heap) = ps ∧ ∀ v ∈ its, R (backV v) (pairAt s.heap v) ∧ Srt.IsPair s.heap v (pairAt s.heap v).1 (pairAt s.heap v).2 ∧ ∃ t, v = Value.ref t := by
    intro xs ps its h1
    induction h1 generalizing its with
    | nil => intro h2; cases h2; exact ⟨rfl, fun v hv => absurd hv (by simp)⟩
    | cons r1 _ ih =>
      intro h2
      cases h2 with
      | cons rv t =>
        obtain ⟨k1, k2, k3, k4⟩ := key _ _ _ r1 rv
        obtain ⟨i1, i2⟩ := ih t
        refine ⟨by rw [List.map_cons, k3, i1], fun v hv => ?_⟩
        rcases List.mem_cons.mp hv with e | hv
        · subst e
          rw [k3, ← k2]
          exact ⟨r1, k1, k4⟩
        · exact i2 v hv
  obtain ⟨e1, e2⟩ := all hR rv
  refine sorted_sq (k := pairAt s.heap) hT ho hc hd (by rw [← rv.length]; exact hz) (fun v hv => (e2 v hv).2.1) fun g d out h1 h2 kp hn0 hn => ?_
  have h3 : ∀ v ∈ out, R (backV v) (pairAt s.heap v) ∧ ∃ t, v = Value.ref t := fun v hv => by
    obtain ⟨i1, _, i3⟩ := e2 v (h2.perm.mem_iff.mp hv)
    exact ⟨i1, i3⟩
  have h4 : out.map (pairAt s.heap) = sortP ps := by
    refine uniq_leP (List.pairwise_map.mpr (h1.imp fun {x y} h => leP_of h)) (pw_sortP ps) ?_
    have := h2.perm.map (pairAt s.heap)
    rw [e1] at this
    exact this.trans (perm_sortP ps).symm
  have h5 : ∀ zs : List Value, (∀ v ∈ zs, R (backV v) (pairAt s.heap v)) → Paired R (zs.map backV) (zs.map (pairAt s.heap)) := by
    intro zs
    induction zs with
    | nil => intro _; exact .nil
    | cons z zs ih => intro h; exact .cons (h z List.mem_cons_self) (ih fun v hv => h v (List.mem_cons_of_mem _ hv))
  have hd0 : H d = none := by
    cases e : H d with
    | none => rfl
    | some u =>
      obtain ⟨u', hu⟩ := obj_there (I.hok d u e)
      rw [hn0] at hu
      cases hu
  obtain ⟨m, hm⟩ := hn
  have h6 := h5 out fun v hv => (h3 v hv).1
  rw [h4] at h6
  refine ⟨.ref d, upd H d (.lst (out.map backV)), I.laidN (t' := s.toks) kp hn0 hd0 ⟨?_, out, m, vals_back fun u hu => (h3 u hu).2, hm⟩, rfl, q _ d h6 hd0⟩
  rw [List.length_map, h2.perm.length_eq, ← rv.length]
  exact hz
noncomputable abbrev rowD : Int × Int → D := prD D.int D.int
noncomputable def prsL : List D → Option (List (Int × Int))
  | [] => some []
  | .tup [.int i, .int j] :: xs => (prsL xs).map ((i, j) :: ·)
  | _ :: _ => none
theorem prsL_eq : ∀ {xs : List D} {ps : List (Int × Int)}, prsL xs = some ps → xs = ps.map rowD := by
  intro xs
  induction xs with
  | nil => intro ps h; cases h; rfl
  | cons x xs ih =>
    intro ps h
    unfold prsL at h
    split at h
    · cases h; rename_i e; cases e
    · rename_i i j ys e
      cases e
      cases q : prsL xs with
      | none => rw [q] at h; cases h
      | some qs =>
        rw [q] at h
        cases h
        rw [ih q]
        rfl
    · cases h
noncomputable def nSortP (f : Ev D) : Ev DO := fun e S => (f e S).bind fun d S => match (sqOf S d).bind prsL with
  | some ps => .ok (.lst ((sortP ps).map rowD)) S
  | none => .bad
section
variable {cl : Str → Addr} {W : WX} {X : Cx} {a : Expr} {f : Ev D} {p pos : Pos}
theorem vrs_pair {K : PySem.W.Frag} {am : AM} {H : Hp} : ∀ {ps : List (Int × Int)} {vs : List V}, VRs K am H (ps.map rowD) vs → Paired (fun x p => VR K am H (rowD p) x) vs ps
  | [], _, .nil => .nil
  | _ :: _, _, .cons h t => .cons h (vrs_pair t)
theorem pair_vrs {K : PySem.W.Frag} {am : AM} {H : Hp} : ∀ {ps : List (Int × Int)} {vs : List V}, Paired (fun x p => VR K am H (rowD p) x) vs ps → VRs K am H (ps.map rowD) vs
  | [], _, .nil => .nil
  | _ :: _, _, .cons h t => .cons h (pair_vrs t)
theorem row_sq {K : PySem.W.Frag} {am : AM} {H : Hp} {q : Int × Int} {x : V} (h : VR K am H (rowD q) x) : ∃ t, x = V.ref t ∧ SqT K H t [.int q.1, .int q.2] := by
  cases h with
  | tup t hs =>
    cases hs with
    | cons h1 hs =>
      cases h1
      cases hs with
      | cons h2 hs =>
        cases h2
        cases hs
        exact ⟨_, rfl, t.seq⟩
theorem qn_sortP (hg : Gl X "sorted") (hm : X.mg "sorted" = none) (ha : QE cl W X a f)
    (h0 : starEach [a] X.env = (false, eval a X.env) :: starEach [] X.env := by rfl) (hpl : (backTo pos (starEach [] X.env)).any (·.1) = false := by rfl) :
    QN cl W X (.Call (.Name "sorted" p) [a] [] pos) (nSortP f) :=
  (pe_callB cr_sortedPQ hg hm (by decide +kernel) (pa_cons ha pa_nil h0) (by decide) (by decide) h0 hpl).imp fun σ H Q ⟨am, e, S, rs, re, q0⟩ =>
    ⟨am, e, S, rs, re, (PostN.step q0).imp fun v H1 ⟨am1, S1, d, _, g1, rs1, rv, q1⟩ => by
      cases e1 : (sqOf S1 d).bind prsL with
      | none => rw [e1] at q1; exact q1.elim
      | some ps =>
        rw [e1] at q1
        cases e2 : sqOf S1 d with
        | none => rw [e2] at e1; cases e1
        | some xs =>
          rw [e2, Option.bind_some] at e1
          obtain ⟨l, us, ev, h2, h3⟩ := sqOf_ok rs1 rv e2
          subst ev
          rw [prsL_eq e1] at h3
          exact ⟨l, us, ps, fun x p => VR X.K am1 H1 (rowD p) x, rfl, h2, vrs_pair h3, fun x p h => row_sq h, fun ys p' hp hp' => PostN.laid q1 g1 rs1 hp' ⟨_, upd_same, (pair_vrs hp).mono (Grow.resv hp')⟩⟩⟩
end
end Pu
set_option Elab.async false
set_option linter.all false
set_option maxRecDepth 100000
namespace Pu
open PySem PySem.Spec PyProof.Rows L2
section
variable {cl : Str → Addr} {W : WX} {X : Cx} {a b o : Expr} {f g : Ev D} {pos apos cpos : Pos}
noncomputable def isBD (neg : Bool) (d e : D) (S : Sto) : Res D := match d, e with
  | .bl x, .bl y => .ok (.bl (if neg = true then !decide (x = y) else decide (x = y))) S
  | _, _ => .bad
@[simp] theorem isBD_bl {neg x y : Bool} {S : Sto} : isBD neg (.bl x) (.bl y) S = .ok (.bl (if neg = true then !decide (x = y) else decide (x = y))) S := id rfl
end
noncomputable def srcS (d : D) (S : Sto) : Res Src := match d with
  | .tup xs => srcT (.tup xs) S
  | d => srcL d S
noncomputable def iS (f : Ev D) : Ev Src := fun e S => (f e S).bind srcS
theorem iS_is (f : Ev D) (e : En) (S : Sto) : iS f e S = iT f e S ∨ iS f e S = iL f e S := by
  unfold iS iT iL
  cases f e S with
  | ok d S1 =>
    cases d with
    | tup xs => exact .inl rfl
    | _ => exact .inr rfl
  | exc c S1 => exact .inl rfl
  | bad => exact .inl rfl
theorem qi_s {cl : Str → Addr} {W : WX} {X : Cx} {a tgE : Expr} {f : Ev D} (ha : QE cl W X a f) : QI cl W X tgE a (iS f) := ⟨fun pins s σ H R I h => by
  obtain ⟨am, e, S, rs, re, p⟩ := h
  rcases iS_is f e S with q | q
  · exact (qi_t ha).run pins s σ H R I ⟨am, e, S, rs, re, by rw [← q]; exact p⟩
  · exact (qi_l ha).run pins s σ H R I ⟨am, e, S, rs, re, by rw [← q]; exact p⟩⟩
section
variable {dead vs : List Nat} {tg : Tg} {f g : Ev D} {a : Stm} {e : En} {S : Sto} {xs ys : List D} {t : Ev Bool}
@[simp] theorem ap_iS : iS f e S = (f e S).bind srcS := id rfl
@[simp] theorem srcS_tup : srcS (.tup xs) S = .ok (.tmp xs) S := id rfl
@[simp] theorem srcS_lst : srcS (.lst xs) S = .ok (.tmp xs) S := id rfl
@[simp] theorem srcS_fls : srcS (.fls xs) S = .ok (.tmp xs) S := id rfl
theorem srcS_ref {k : Nat} (h : S[k]? = some (.lst xs)) : srcS (.ref k) S = .ok (.st k xs) S := srcL_ref h
/-- data that are walked -/
noncomputable def isSq (d : D) (xs : List D) : Prop := d = .tup xs ∨ d = .lst xs ∨ d = .fls xs
theorem forS {d : D} (hf : f e S = .ok d S) (h : isSq d xs) : sFor dead tg (iS f) a e S = forD dead tg (.tmp xs) a xs e S := by
  rcases h with rfl | rfl | rfl <;> · rw [ap_For, ap_iS, hf, Res.bind_ok]; rfl
theorem forS_tup (hf : f e S = .ok (.tup xs) S) : sFor dead tg (iS f) a e S = forD dead tg (.tmp xs) a xs e S := forS hf (.inl rfl)
theorem forS_lst (hf : f e S = .ok (.lst xs) S) : sFor dead tg (iS f) a e S = forD dead tg (.tmp xs) a xs e S := forS hf (.inr (.inl rfl))
theorem forS_ref {k : Nat} (hf : f e S = .ok (.ref k) S) (h : S[k]? = some (.lst xs)) : sFor dead tg (iS f) a e S = forD dead tg (.st k xs) a xs e S := by
  rw [ap_For, ap_iS, hf, Res.bind_ok, srcS_ref h]
  rfl
theorem nLcS {d : D} (hf : f e S = .ok d S) (h : isSq d xs) (hl : xs.length < 1048576) (q : lcD tg (.tmp xs) t g (wipeE e vs) xs S = .ok ys S) : nLc vs tg (iS f) t g e S = .ok (.lst ys) S := by
  have e1 : iS f e S = .ok (.tmp xs) S := by
    rcases h with rfl | rfl | rfl <;> · rw [ap_iS, hf, Res.bind_ok]; rfl
  rw [ap_Lc, e1, Res.bind_ok]
  simp only [Src.items_tmp]
  rw [if_pos (Nat.le_of_lt (sz hl)), q, Res.bind_ok]
theorem nLcS_tup (hf : f e S = .ok (.tup xs) S) (hl : xs.length < 1048576) (q : lcD tg (.tmp xs) t g (wipeE e vs) xs S = .ok ys S) : nLc vs tg (iS f) t g e S = .ok (.lst ys) S := nLcS hf (.inl rfl) hl q
theorem nLcS_lst (hf : f e S = .ok (.lst xs) S) (hl : xs.length < 1048576) (q : lcD tg (.tmp xs) t g (wipeE e vs) xs S = .ok ys S) : nLc vs tg (iS f) t g e S = .ok (.lst ys) S := nLcS hf (.inr (.inl rfl)) hl q
end
theorem addT {α : Type} {f : α → D} {xs ys : List α} {S : Sto} (h : xs.length + ys.length < 1000000) : addD (tpD f xs) (tpD f ys) S = .ok (tpD f (xs ++ ys)) S := by
  unfold tpD
  rw [addD_tup, if_pos (Nat.le_of_lt (sz (by simp only [List.length_map]; omega))), List.map_append]
theorem rpRow : Rp rowD 1 := Rp.int.pr Rp.int
theorem rng_map {n : Nat} : rngD 0 n = (List.range n).map fun k : Nat => D.int (k : Int) := by
  simp [rngD]
theorem cut_from {α : Type} {xs : List α} {a : Nat} : cutL xs (some (a : Int)) none = xs.drop a := by
  unfold cutL
  rw [HT.sIx_nat, HT.sIx_none]
  by_cases h : a ≤ xs.length
  · rw [Nat.min_eq_left h, List.take_of_length_le (by simp)]
  · rw [Nat.min_eq_right (by omega), List.drop_of_length_le (Nat.le_refl _), List.drop_of_length_le (by omega)]
    simp
@[simp] theorem slD_tup {xs : List D} {lo hi : Option Int} {S : Sto} : slD (.tup xs) lo hi S = .ok (.tup (cutL xs lo hi)) S := id rfl
@[simp] theorem slD_lst {xs : List D} {lo hi : Option Int} {S : Sto} : slD (.lst xs) lo hi S = .ok (.lst (cutL xs lo hi)) S := id rfl
theorem addL {xs ys : List D} {S : Sto} (h : xs.length + ys.length < 1000000) : addD (.lst xs) (.lst ys) S = .ok (.lst (xs ++ ys)) S := by
  have e : addD (.lst xs) (.lst ys) S = catL (some xs) (some ys) S := rfl
  rw [e]
  unfold catL
  simp only
  rw [if_pos (Nat.le_of_lt (sz (by omega)))]
end Pu
set_option Elab.async false
set_option linter.all false
set_option maxRecDepth 100000
namespace Pu
open PySem PySem.Spec PyProof.Rows L2
noncomputable def getD2 (o i z : D) (S : Sto) : Res D := match dcOf S o with
  | some kvs => match keyOf i with
    | some k => .ok ((getK kvs k).getD z) S
    | none => .bad
  | none => .bad
noncomputable def eGet (f g h : Ev D) : Ev D := fun e S => (f e S).bind fun o S => if (dcOf S o).isSome = true then (g e S).bind fun i S => (h e S).bind fun z S => getD2 o i z S else .bad
/-- the keys, all of them ints -/
noncomputable def keysI : List (Key × D) → Option (List Int)
  | [] => some []
  | (.inl i, _) :: r => (keysI r).map (i :: ·)
  | _ :: _ => none
noncomputable def nSortD (f : Ev D) : Ev DO := fun e S => (f e S).bind fun d S => match (dcOf S d).bind keysI with
  | some ns => if ns.length < 4000 then .ok (.lst ((sortI ns).map D.int)) S else .bad
  | none => .bad
theorem keysI_ok {K : PySem.W.Frag} {am : AM} {H : Hp} : ∀ {ds : List (Key × D)} {vs : List (Key × V)} {ns : List Int}, VRk K am H ds vs → keysI ds = some ns → vs.map (·.1) = ns.map Sum.inl
  | _, _, _, .nil, e => by cases e; rfl
  | _, _, ns, .cons (k := k) (ds := ds) h t, e => by
    cases k with
    | inl i =>
      simp only [keysI] at e
      cases q : keysI ds with
      | none => rw [q] at e; cases e
      | some ms =>
        rw [q] at e
        cases e
        rw [List.map_cons, keysI_ok t q]
        rfl
    | inr x => cases e
section
variable {cl : Str → Addr} {W : WX} {X : Cx} {a b c : Expr} {f g h : Ev D} {p pos apos cpos : Pos}
theorem qn_sortD (hc : X.calm = true) (hg : Gl X "sorted") (hm : X.mg "sorted" = none) (ha : QE cl W X a f)
    (h0 : starEach [a] X.env = (false, eval a X.env) :: starEach [] X.env := by rfl) (hpl : (backTo pos (starEach [] X.env)).any (·.1) = false := by rfl) :
    QN cl W X (.Call (.Name "sorted" p) [a] [] pos) (nSortD f) :=
  (pe_callB (call_sortedDX hc) hg hm (by decide +kernel) (pa_cons ha pa_nil h0) (by decide) (by decide) h0 hpl).imp fun σ H Q ⟨am, e, S, rs, re, q0⟩ =>
    ⟨am, e, S, rs, re, (PostN.step q0).imp fun v H1 ⟨am1, S1, d, _, g1, rs1, rv, q1⟩ => by
      cases e1 : (dcOf S1 d).bind keysI with
      | none => rw [e1] at q1; exact q1.elim
      | some ns =>
        rw [e1] at q1
        simp only at q1
        by_cases hl : ns.length < 4000
        · rw [if_pos hl] at q1
          cases e2 : dcOf S1 d with
          | none => rw [e2] at e1; cases e1
          | some xs =>
            rw [e2, Option.bind_some] at e1
            obtain ⟨l, us, ev, h2, h3⟩ := dcOf_ok rs1 rv e2
            subst ev
            refine ⟨l, us, ns, rfl, .inl h2, keysI_ok h3 e1, by omega, fun ns' p' hp hs hp' => ?_⟩
            have en : ns' = sortI ns := uniq_le hs (pw_sortI ns) (hp.trans (perm_sortI ns).symm)
            subst en
            exact PostN.laid q1 g1 rs1 hp' ⟨_, upd_same, VRs.ints_map _⟩
        · rw [if_neg hl] at q1
          exact q1.elim⟩
/-- by what it is -/
noncomputable def nSort (f : Ev D) : Ev DO := fun e S => match f e S with
  | .ok d S1 => if (dcOf S1 d).isSome = true then nSortD f e S else if ((lsOf S1 d).bind intsL).isSome = true then nSortI f e S else nSortP f e S
  | _ => nSortI f e S
theorem nSort_is (f : Ev D) (e : En) (S : Sto) : nSort f e S = nSortD f e S ∨ nSort f e S = nSortI f e S ∨ nSort f e S = nSortP f e S := by
  unfold nSort
  split
  · split
    · exact .inl rfl
    · split
      · exact .inr (.inl rfl)
      · exact .inr (.inr rfl)
  · exact .inr (.inl rfl)
theorem qn_sort (hc : X.calm = true) (hg : Gl X "sorted") (hm : X.mg "sorted" = none) (ha : QE cl W X a f)
    (h0 : starEach [a] X.env = (false, eval a X.env) :: starEach [] X.env := by rfl) (hpl : (backTo pos (starEach [] X.env)).any (·.1) = false := by rfl) :
    QN cl W X (.Call (.Name "sorted" p) [a] [] pos) (nSort f) := ⟨fun pins s σ H Q I h => by
  obtain ⟨am, e, S, rs, re, q0⟩ := h
  rcases nSort_is f e S with q | q | q
  · exact (qn_sortD hc hg hm ha h0 hpl).run pins s σ H Q I ⟨am, e, S, rs, re, by rw [← q]; exact q0⟩
  · exact (qn_sortI hg hm ha h0 hpl).run pins s σ H Q I ⟨am, e, S, rs, re, by rw [← q]; exact q0⟩
  · exact (qn_sortP hg hm ha h0 hpl).run pins s σ H Q I ⟨am, e, S, rs, re, by rw [← q]; exact q0⟩⟩
end
section
variable {f g h : Ev D} {e : En} {S : Sto}
@[simp] theorem ap_Get : eGet f g h e S = (f e S).bind fun o S => if (dcOf S o).isSome = true then (g e S).bind fun i S => (h e S).bind fun z S => getD2 o i z S else .bad := id rfl
theorem nSort_dct {d : D} {kvs : List (Key × D)} {ns : List Int} (hf : f e S = .ok d S) (h1 : dcOf S d = some kvs) (h2 : keysI kvs = some ns) (h3 : ns.length < 4000) : nSort f e S = .ok (.lst ((sortI ns).map D.int)) S := by
  unfold nSort nSortD
  rw [hf]
  simp only [h1, Option.isSome_some, if_true, Res.bind_ok, Option.bind_some, h2]
  rw [if_pos h3]
theorem nSort_ints {d : D} {ns : List Int} (hf : f e S = .ok d S) (h0 : dcOf S d = none) (h1 : lsOf S d = some (ns.map D.int)) : nSort f e S = .ok (.lst ((sortI ns).map D.int)) S := by
  unfold nSort nSortI
  rw [hf]
  simp [h0, h1]
end
noncomputable def putAll : List Nat → List D → En → Option En
  | [], [], e => some e
  | i :: is, d :: ds, e => putAll is ds (e.set i (some d))
  | _, _, _ => none
noncomputable def sPar (is : List Nat) (fs : List (Ev D)) : Stm := fun e S => (eArgs fs e S).stm e fun ds S => match putAll is ds e with
  | some e' => .next e' S
  | none => .bad
section
variable {cl : Str → Addr} {W : WX} {X : Cx} {a b c : Expr} {f g h : Ev D} {x y z : Str} {px py pz pt pt2 pos : Pos} {kt k2 : Nat}
@[simp] theorem ap_Par {is : List Nat} {fs : List (Ev D)} {e : En} {S : Sto} : sPar is fs e S = (eArgs fs e S).stm e fun ds S => match putAll is ds e with
  | some e' => .next e' S
  | none => .bad := id rfl
@[simp] theorem putAll_nil {e : En} : putAll [] [] e = some e := id rfl
@[simp] theorem putAll_cons {i : Nat} {is : List Nat} {d : D} {ds : List D} {e : En} : putAll (i :: is) (d :: ds) e = putAll is ds (e.set i (some d)) := id rfl
end
end Pu
set_option Elab.async false
set_option linter.all false
set_option maxRecDepth 100000
namespace Pu
open PySem PySem.Spec PyProof.Rows L2
theorem FitMul.ok {i j : Int} (h : FitMul i j) : IntMulOk i j := by
  rcases h with h | h | h
  · exact CMul.ok (.inl h)
  · exact CMul.ok (.inr h)
  · exact CMulX.ok h
end Pu
set_option Elab.async false
set_option linter.all false
set_option maxRecDepth 100000
namespace Pu
open PySem PySem.Spec PyProof.Rows L2
noncomputable def enumL (xs : List D) : List D := (List.range xs.length).map fun i => .tpi [.int (i : Nat), xs[i]?.getD .non]
end Pu
set_option Elab.async false
set_option linter.all false
set_option maxRecDepth 100000
set_option maxHeartbeats 4000000
namespace Pu
open PySem PySem.Spec PyProof.Rows L2
end Pu
set_option Elab.async false
set_option linter.all false
set_option maxRecDepth 100000
namespace Pu
open PySem PySem.Spec PyProof.Rows L2
noncomputable def eBits (f : Ev D) : Ev D := fun e S => (f e S).bind fun d S => match d with
  | .int i => .ok (.int (Builtin.Int.intBits i : Nat)) S
  | _ => .bad
noncomputable instance (a b : Int) : Decidable (RgOk a b) := by unfold RgOk; infer_instance
section
variable {cl : Str → Addr} {W : WX} {X : Cx} {a b : Expr} {f g : Ev D} {p p2 apos pos pos2 : Pos}
/-- a statement that is never reached -/
noncomputable def sBad : Stm := fun _ _ => .bad
theorem qs_bad {st : Stmt} : QS cl W X st sBad := ⟨fun pins s σ H E I ⟨am, e, S, rs, re, p⟩ => p.elim⟩
end
@[simp] theorem ap_bits : eBits f e S = (f e S).bind fun d S => match d with
  | .int i => .ok (.int (Builtin.Int.intBits i : Nat)) S
  | _ => .bad := id rfl
end Pu
set_option Elab.async false
set_option linter.all false
set_option maxRecDepth 100000
set_option maxHeartbeats 4000000
namespace Pu
open PySem PySem.Spec PyProof.Rows L2
/-- enumerate of data that stand still -/
noncomputable def srcEA (d : D) (S : Sto) : Res Src := match d with
  | .lst xs => .ok (.tmp (enumL xs)) S
  | .fls xs => .ok (.tmp (enumL xs)) S
  | .tup xs => .ok (.tmp (enumL xs)) S
  | _ => .bad
noncomputable def iEA (f : Ev D) : Ev Src := fun e S => (f e S).bind srcEA
@[simp] theorem ap_iEA {f : Ev D} {e : En} {S : Sto} : iEA f e S = (f e S).bind srcEA := id rfl
end Pu
set_option Elab.async false
set_option linter.all false
set_option maxRecDepth 100000
namespace Pu
open PySem PySem.Spec PyProof.Rows L2
end Pu
set_option Elab.async false
set_option linter.all false
set_option maxRecDepth 100000
namespace Pu
open PySem PySem.Spec PyProof.Rows L2
end Pu
set_option Elab.async false
set_option linter.all false
set_option maxRecDepth 100000
namespace Pu
open PySem PySem.Spec PyProof.Rows L2
end Pu
set_option Elab.async false
set_option linter.all false
set_option maxRecDepth 100000
namespace Pu
open PySem PySem.Spec PyProof.Rows L2
theorem takesN {X : Cx} : L2N.Takes X (fun _ _ _ _ => False) := fun _ _ x => by
  obtain ⟨_, _, _, _, _, _, _, _, _, _, _, _, _, _, _, _, z⟩ := x
  exact z.elim
structure FnE (P : Program) (w : World) (K : PySem.W.Frag) (mg : Str → Option Value) (base : Heap) (k : Nat) (f : Addr) (fd : FuncData) (ps : List Str) (cl : Str → Addr) (c : Str) (v : Bool) : Prop where
  run : ∀ (A : Around) (outer : List PySem.Env) (s : Shared) (H : Hp) (args : Args) (us : List Value) (Q : VK) (E : XK) (p : Addr × Obj), L2H.RoomH k A → L2H.Hot1 A p → L2H.PinOk outer H s p → Env0 P w K mg base A outer s H → BindsTo s fd args (ps.zip us) → Vals [.ref p.1] us → L2N.Zn (.ref (cl c)) none p.2 →
    (∀ H', (∀ b o, H b = some o → H' b = some o) → Q (.bl v) H') → codeAny (model P w) A (.call (.ref f) args) (CR (L2N.CX P w) outer P w H s Q E) s
structure DefE (P : Program) (w : World) (K : PySem.W.Frag) (mg : Str → Option Value) (base : Heap) (cl : Str → Addr) (x : Str) (k : Nat) (ps : List Str) (c : Str) (v : Bool) : Prop where
  ex : ∃ f fd, FnE P w K mg base k f fd ps cl c v ∧ mg x = some (.ref f) ∧ PySem.W.keepIn K (.ref f) = true ∧ ∀ us : List Value, us.length = ps.length → bindArgs fd ⟨us, []⟩ = pure (ps.zip us)
section
variable {P : Program} {w : World} {K : PySem.W.Frag} {mg : Str → Option Value} {base : Heap} {cl : Str → Addr}
theorem DefE.mono {x : Str} {k j : Nat} {ps : List Str} {c : Str} {v : Bool} (d : DefE P w K mg base cl x k ps c v) (h : k ≤ j) : DefE P w K mg base cl x j ps c v :=
  let ⟨f, fd, a, b⟩ := d.ex
  ⟨f, fd, ⟨fun A outer s H args us Q E p hr => a.run A outer s H args us Q E p (hr.mono h)⟩, b⟩
end
end Pu
set_option Elab.async false
set_option linter.all false
set_option maxRecDepth 100000
set_option maxHeartbeats 2000000
namespace PySem
open PySem.Calls HotX
end PySem
namespace Pu
open PySem PySem.Spec PyProof.Rows L2
end Pu
set_option Elab.async false
set_option linter.all false
set_option maxRecDepth 100000
namespace Pu
open PySem PySem.Spec PyProof.Rows L2
end Pu
set_option Elab.async false
set_option linter.all false
set_option maxRecDepth 100000
namespace HT
open PySem PySem.Spec PyProof.Rows
section
variable {prog : Program} {w : World} {A : Around} {E : Value → Shared → Prop} {s : Shared}
theorem adjust_back (n : Nat) : Builtin.Slice.sliceAdjust none none (-1) (n : Int) = ((n : Int) - 1, -1) := by
  unfold Builtin.Slice.sliceAdjust
  simp
theorem places_back (n : Nat) : Builtin.Slice.slicePlaces ((n : Int) - 1) (-1) (-1) = n := by
  unfold Builtin.Slice.slicePlaces
  rw [if_neg (by decide)]
  by_cases h : (n : Int) - 1 > -1
  · rw [if_pos h, show (-(-1 : Int)) = 1 by decide, Int.ediv_one]
    omega
  · rw [if_neg h]
    omega
theorem pick_back (xs : Array Value) : ((List.range xs.size).filterMap fun (m : Nat) => xs[(((xs.size : Nat) : Int) - 1 + (m : Int) * (-1)).toNat]?).toArray = xs.toList.reverse.toArray := by
  have e : (fun (m : Nat) => xs[(((xs.size : Nat) : Int) - 1 + (m : Int) * (-1)).toNat]?) = fun m => xs[xs.size - 1 - m]? := by
    funext m
    have : (((xs.size : Nat) : Int) - 1 + (m : Int) * (-1)).toNat = xs.size - 1 - m := by omega
    rw [this]
  rw [e]
  have h := PySem.W.krv_all xs
  have h2 : (List.range xs.size).filterMap (fun m => xs[xs.size - 1 - m]?) = ((List.range xs.size).map fun k => xs.size - 1 - k).filterMap (xs[·]?) := by
    rw [List.filterMap_map]
    rfl
  rw [h2, PySem.W.krv_range, List.filterMap_reverse, h]
theorem sliceApplied_back {sl : Addr} {vk : Value} {n : Nat} {Q : Int × Int × Nat → Shared → Prop} (hs : s.heap.IsSliceOf sl .none .none vk) (pk : IsPart vk (some (-1)))
    (h : Q ((n : Int) - 1, -1, n) s) : wpAny (model prog w) A (Builtin.Slice.sliceApplied (.ref sl) (pure (n : Int))) Q E s := by
  obtain ⟨os, hos, hcs, hds⟩ := id hs
  unfold Builtin.Slice.sliceApplied Builtin.Slice.sliceFields
  refine wpAny_bind (wpAny_bind (wpAny_field hos hds (x := .none) rfl (wpAny_bind (wpAny_field hos hds (x := .none) rfl (wpAny_bind (wpAny_field hos hds (x := vk) rfl (wpAny_pure ?_)))))))
  refine wpAny_bind (slicePart_ pk ?_)
  show wpAny _ _ (if ((-1 : Int) == 0) = true then _ else _) _ _ s
  rw [if_neg (by decide)]
  refine wpAny_bind (slicePart_none (wpAny_bind (slicePart_none (wpAny_bind (wpAny_pure ?_)))))
  show wpAny _ _ (match Builtin.Slice.sliceAdjust none none (-1) (n : Int) with | (lo, hi) => pure (lo, (-1 : Int), Builtin.Slice.slicePlaces lo hi (-1))) _ _ s
  rw [adjust_back n]
  show wpAny _ _ (pure ((n : Int) - 1, (-1 : Int), Builtin.Slice.slicePlaces ((n : Int) - 1) (-1) (-1))) _ _ s
  rw [places_back]
  exact wpAny_pure h
theorem getItem_tuple_back {t sl : Addr} {items : Array Value} {vk : Value} {Q : Value → Shared → Prop} (ht : IsTup s.heap t items) (hs : s.heap.IsSliceOf sl .none .none vk) (pk : IsPart vk (some (-1)))
    (h : Q (.ref s.heap.objs.size) { s with heap := s.heap.push { cls := .type "tuple", data := .seq items.toList.reverse.toArray } })
    (hsz : items.size ≤ sizeLine) : wpAny (model prog w) A (getItem (.ref t) (.ref sl)) Q E s := by
  have htake : sizeOk (.seq items.toList.reverse.toArray) := by
    show items.toList.reverse.toArray.size ≤ sizeLine
    rw [List.size_toArray, List.length_reverse, Array.length_toList]
    omega
  obtain ⟨os, hos, hcs, hds⟩ := id hs
  have hTs : s.TypeIs (.ref sl) "slice" := ⟨os, hos, hcs⟩
  unfold getItem
  try with_reducible refine wpAny_holding ?_
  first | refine wpAny_bind (wpAny_pure ?_) | skip
  refine wpAny_bind (wpAny_sequenceKey ht.typeIs (by decide) ?_)
  refine wpAny_bind (wpAny_callSpecial?_slot (name := Str.ofString "__getitem__") ht.typeIs PyProof.Rows.slot_tuple_getitem
    (wpAny_call_entry PyProof.Rows.slot_tuple_getitem ht.typeIs entry_tuple_getitem ?_ (args_tuple_getitem _ _)))
  show wpAny _ _ (Builtin.Tuple.tupleItemsOf (.ref t) >>= _) _ _ s
  refine wpAny_bind (tupleItemsOf_ ht ?_)
  refine wpAny_bind (wpAny_typeOf hTs ?_)
  rw [if_pos (by decide)]
  refine wpAny_bind (sliceApplied_back hs pk ?_)
  have hno : ¬ ((((items.size : Nat) : Int) - 1 == 0 && (-1 : Int) == 1 && items.size == items.size) = true) := by
    intro q
    rw [Bool.and_eq_true, Bool.and_eq_true] at q
    exact absurd q.1.2 (by decide)
  show wpAny _ _ (if (((items.size : Nat) : Int) - 1 == 0 && (-1 : Int) == 1 && items.size == items.size) = true then _ else _) _ _ s
  rw [if_neg hno, pick_back]
  first
    | exact wpAny_bind (m := Builtin.Tuple.tupleExact _) (wpAny_newObj_type (wpAny_pure ⟨_, rfl, wpAny_pure h⟩) htake)
    | exact wpAny_bind (m := Builtin.Tuple.tupleExact _) (wpAny_newObj_type (wpAny_bind (wpAny_pure (wpAny_pure ⟨_, rfl, wpAny_pure h⟩))) htake)
    | exact wpAny_bind (wpAny_bind (m := Builtin.Tuple.tupleExact _) (wpAny_newObj_type (wpAny_pure (wpAny_pure ⟨_, rfl, wpAny_pure h⟩)) htake))
    | exact wpAny_bind (wpAny_bind (m := Builtin.Tuple.tupleExact _) (wpAny_newObj_type (wpAny_pure ⟨_, rfl, wpAny_pure h⟩) htake))
end
end HT
namespace Pu
open PySem PySem.Spec PyProof.Rows L2
/-- what x[::-1] is, by values -/
noncomputable def SlB (X : Cx) (r : V → Hp → VK → Prop) : Prop :=
  ∀ (pins : List (Addr × Obj)) (s : Shared) (σ : L2.St) (H : Hp) (x : V) (v vk : Value) (sl : Addr) (Q : VK), Inv X pins σ H s → RelV x v → s.heap.IsSliceOf sl .none .none vk → IsPart vk (some (-1)) → r x H Q →
    ∃ T id, typeLookup (.type T) "__getitem__" = pure (some (.builtin id)) ∧ s.TypeIs v T ∧ wpAny (model X.prog X.w) X.A (getItem v (.ref sl)) (EP X pins σ Q) X.xe s
section
variable {X : Cx}
theorem SlB.or {r r' : V → Hp → VK → Prop} (h : SlB X r) (h' : SlB X r') : SlB X (fun x H Q => r x H Q ∨ r' x H Q) := by
  intro pins s σ H x v vk sl Q I rx hs pk q
  rcases q with q | q
  · exact h pins s σ H x v vk sl Q I rx hs pk q
  · exact h' pins s σ H x v vk sl Q I rx hs pk q
noncomputable def rBkT (K : PySem.W.Frag) : V → Hp → VK → Prop := fun x H Q => ∃ a xs, x = .ref a ∧ SqT K H a xs ∧ NT xs.reverse H Q
noncomputable def rBkL (K : PySem.W.Frag) : V → Hp → VK → Prop := fun x H Q => ∃ a xs, x = .ref a ∧ SqL K H a xs ∧ ∀ p, H p = none → Q (.ref p) (upd H p (.lst xs.reverse))
theorem bk_tup : SlB X (rBkT X.K) := by
  intro pins s σ H x v vk sl Q I rx hs pk h
  obtain ⟨a, xs, rfl, hx, q⟩ := h
  cases rx
  obtain ⟨its, r, ht, hz⟩ := I.tuple hx
  refine ⟨"tuple", _, PyProof.Rows.slot_tuple_getitem.lookup, ht.typeIs, ?_⟩
  refine HT.getItem_tuple_back ht hs pk ?_ (by rw [List.size_toArray, ← r.length]; exact hz)
  exact NT.lay (tk := s.toks) I r.reverse (by rw [List.length_reverse]; exact hz) q
theorem bk_lst : SlB X (rBkL X.K) := by
  intro pins s σ H x v vk sl Q I rx hs pk h
  obtain ⟨a, xs, rfl, hx, q⟩ := h
  cases rx
  obtain ⟨its, r, ht, hz⟩ := I.list hx
  have hlen := r.length
  refine ⟨"list", _, PySem.slot_list_getitem.lookup, ht.isList.typeIs, ?_⟩
  refine wpAny_getItem_list_slice ht.isList hs .none .none pk (by decide) ?_ (by rw [List.size_toArray]; omega)
  rw [PySem.W.krv_pick]
  refine ⟨.ref _, _, I.laid (t' := s.toks) (o := .lst xs.reverse) (fun b ob q => Heap.get?_push_of_some _ q) (Nat.le_refl _) ?_, rfl, q _ (I.hok.fresh (Nat.le_refl _))⟩
  exact ⟨by rw [List.length_reverse]; exact hz, _, 0, r.reverse, Heap.get?_push_size _ rfl⟩
noncomputable def tBk (r : V → Hp → VK → Prop) (te : TE) : TE := fun σ H Q => te σ H fun x H1 => r x H1 Q
theorem pe_back {r : V → Hp → VK → Prop} {e : Expr} {te : TE} {k : Nat} {p1 p2 p3 pos : Pos} (hr : SlB X r) (he : PE X e te) : PE X (.Subscript e (.Slice none none (some (.UnaryOp .USub (.Constant (.int 1) k p1) p2)) p3) pos) (tBk r te) := by
  refine ⟨fun pins s σ H Q I h => ?_⟩
  refine Subscript_ (thn (he.run pins s σ H _ I h) fun v s1 ⟨x, H1, I1, r1, q1⟩ => ?_)
  have hst : PO X (some (.UnaryOp .USub (.Constant (.int 1) k p1) p2)) (tPart (tUn (rU fun i => .int (-i)) (tC (.int 1)))) := po_some (pe_un un_neg pe_int)
  refine wpAny_Slice (thn (po_none.run pins s1 σ H1 (fun o H2 => o = none ∧ H2 = H1) I1 ⟨rfl, rfl⟩) fun vl s2 ⟨l, H2, I2, pl, el, e2⟩ => ?_)
  subst el e2
  refine thn (po_none.run pins s2 σ H2 (fun o H3 => o = none ∧ H3 = H2) I2 ⟨rfl, rfl⟩) fun vu s3 ⟨u, H3, I3, pu, eu, e3⟩ => ?_
  subst eu e3
  refine thn (hst.run pins s3 σ H3 (fun o H4 => o = some (-1) ∧ H4 = H3) I3 ⟨1, rfl, -1, rfl, rfl, rfl⟩) fun vs s4 ⟨o, H4, I4, ps, eo, e4⟩ => ?_
  subst eo e4
  cases pl
  cases pu
  have I5 : Inv X pins σ H4 { s4 with heap := s4.heap.push { cls := .type "slice", data := .fields #[.none, .none, vs] } } := I4.kept (t' := s4.toks) fun b ob q => Heap.get?_push_of_some _ q
  obtain ⟨T, id, hT, ht, hg⟩ := hr pins { s4 with heap := s4.heap.push { cls := .type "slice", data := .fields #[.none, .none, vs] } } σ H4 x v vs s4.heap.objs.size Q I5 r1 (Heap.IsSliceOf.new _ .none .none vs) ps q1
  show wpAny (model X.prog X.w) X.A (subscriptTail e (.Slice none none (some (.UnaryOp .USub (.Constant (.int 1) k p1) p2)) p3) v (.ref s4.heap.objs.size)) (EP X pins σ Q) X.xe { s4 with heap := s4.heap.push { cls := .type "slice", data := .fields #[.none, .none, vs] } }
  exact tail_any (ops := [v, .ref s4.heap.objs.size]) ht hT hg (by with_unfolding_all rfl)
end
section
variable {cl : Str → Addr} {W : WX} {X : Cx} {a : Expr} {f : Ev D} {pos : Pos}
noncomputable def bkD (d : D) (S : Sto) : Res D := match d with
  | .tup xs => .ok (.tup xs.reverse) S
  | d => match lsOf S d with
    | some xs => .ok (.lst xs.reverse) S
    | none => .bad
@[simp] theorem bkD_tup {xs : List D} {S : Sto} : bkD (.tup xs) S = .ok (.tup xs.reverse) S := id rfl
@[simp] theorem bkD_lst {xs : List D} {S : Sto} : bkD (.lst xs) S = .ok (.lst xs.reverse) S := id rfl
theorem VRs.back {K : PySem.W.Frag} {am : AM} {H : Hp} : ∀ {ds : List D} {vs : List V}, VRs K am H ds vs → VRs K am H ds.reverse vs.reverse
  | _, _, .nil => .nil
  | _, _, .cons h1 h2 => by
    rw [List.reverse_cons, List.reverse_cons]
    exact (VRs.back h2).append (.cons h1 .nil)
theorem qe_back {k : Nat} {p1 p2 p3 : Pos} (ha : QE cl W X a f) : QE cl W X (.Subscript a (.Slice none none (some (.UnaryOp .USub (.Constant (.int 1) k p1) p2)) p3) pos) (e1 bkD f) :=
  (pe_back (SlB.or bk_tup bk_lst) ha).imp fun σ H Q ⟨am, e, S, rs, re, p⟩ =>
    ⟨am, e, S, rs, re, (Post.step p).imp fun x H1 ⟨am1, S1, d, _, g1, rs1, rv, p1⟩ => by
      have ls : Post X.K cl W σ (VR X.K) am1 H1 (match lsOf S1 d with | some xs => .ok (.lst xs.reverse) S1 | none => .bad) Q → rBkL X.K x H1 Q := fun p => by
        cases q : lsOf S1 d with
        | none => rw [q] at p; exact p.elim
        | some xs =>
          rw [q] at p
          obtain ⟨a, vs, ev, r1, hs⟩ := lsOf_ok rs1 rv q
          exact ⟨a, vs, ev, r1, fun q hq => p am1 _ _ (Grow.upd hq) (rs1.upd hq) (VR.lstNew rs1 hs.back hq)⟩
      cases rv with
      | @tup a vs ds h1 h2 => exact .inl ⟨a, vs, rfl, h1.seq, fun q ob hq hd => p1 am1 _ _ (Grow.upd hq) (rs1.upd hq) (VR.tupNew rs1 h2.back hq hd)⟩
      | lst _ _ _ => exact .inr (ls p1)
      | fls _ _ => exact .inr (ls p1)
      | ref _ => exact .inr (ls p1)
      | _ => exact p1.elim⟩
end
end Pu
set_option Elab.async false
set_option linter.all false
set_option maxRecDepth 100000
namespace Pu
open PySem PySem.Spec PyProof.Rows L2
end Pu
set_option Elab.async false
set_option linter.all false
set_option maxRecDepth 100000
namespace Pu
open PySem PySem.Spec PyProof.Rows L2
section
variable {X : Cx} {pins : List (Addr × Obj)} {σ : L2.St} {H : Hp} {s : Shared}
theorem TupAt.plain {am : AM} {a : Addr} {vs : List V} (J : Inv X pins σ H s) (h : TupAt X.K am H a vs) : ∃ its : List Value, Vals vs its ∧ vs.length ≤ sizeLine ∧ PlainSeq "tuple" s.heap a its.toArray := by
  rcases h with ⟨o, h, d, _⟩ | ⟨o, its, n, hk, hc, hd, hs, z, r⟩
  · obtain ⟨e, z, its, r, o', e', c, n, t⟩ := J.hok a _ h
    rw [e] at e'
    cases e'
    exact ⟨its, r, z, o, n, e, c, d, t⟩
  · refine ⟨its.toList, r, ?_, o, n, J.kIn a o hk, hc, hd, by simpa using hs⟩
    have := r.length
    simp only [Array.length_toList] at this
    omega
theorem prs_of (J : Inv X pins σ H s) : ∀ {ps : List Addr} {kvs : List (Key × V)}, Paired (fun p kv => SqT X.K H p [kV kv.1, kv.2]) ps kvs →
    ∃ (prs : List (Key × Value)) (vv : List (Value × Value)), KV kvs prs ∧ prs.length = ps.length ∧ vv.length = ps.length ∧
      ∀ (j : Nat) (k v : Value), vv[j]? = some (k, v) → (∃ b, ps[j]? = some b ∧ IsTup s.heap b #[k, v]) ∧ ∃ q, prs[j]? = some (q, v) ∧ (mixKind X.prog X.w).is q k = true
  | _, _, .nil => ⟨[], [], .nil, rfl, rfl, fun j k v e => by simp at e⟩
  | _, _, .cons (a := p) (b := kv) h t => by
    obtain ⟨prs, vv, rel, l1, l2, hv⟩ := prs_of J t
    obtain ⟨its, rv, ht, _⟩ := J.tuple h
    cases rv with
    | cons r1 rv =>
      cases rv with
      | cons r2 rv =>
        cases rv
        rename_i u y
        refine ⟨(kv.1, y) :: prs, (u, y) :: vv, .cons ⟨rfl, r2⟩ rel, by simp [l1], by simp [l2], fun j k v e => ?_⟩
        cases j with
        | zero =>
          simp at e
          obtain ⟨rfl, rfl⟩ := e
          exact ⟨⟨p, rfl, ht⟩, kv.1, rfl, kV_is (P := X.prog) (w := X.w) r1⟩
        | succ j => exact hv j k v (by simpa using e)
noncomputable def rDctP (K : PySem.W.Frag) : List V → Hp → VK → Prop := fun xs H Q => ∃ (am : AM) (a : Addr) (ps : List Addr) (kvs : List (Key × V)), xs = [V.ref a] ∧ TupAt K am H a (ps.map V.ref) ∧ Paired (fun p kv => SqT K H p [kV kv.1, kv.2]) ps kvs ∧
  ∀ p, H p = none → Q (.ref p) (upd H p (.dK (mergeK [] kvs)))
theorem cr_dctP (hc : X.calm = true) : CallR X (.type "dict") (rDctP X.K) := by
  intro pins s σ H xs us Q J r h
  obtain ⟨am, a, ps, kvs, rfl, ht, hp, q⟩ := h
  rw [Vals.ref1 r]
  obtain ⟨its, rv, z, pl⟩ := ht.plain J
  have ei := refs_at rv
  subst ei
  obtain ⟨prs, vv, rel, l1, l2, hv⟩ := prs_of J hp
  rw [List.length_map] at z
  refine PySem.call_dict_pairs (knd := mixKind X.prog X.w) (kvs := prs) (PairArg.tuple a (ps.map Value.ref).toArray (fun j => (ps[j]?).getD 0) vv) (J.ok.hd hc) ⟨pl, by simp [l2], fun j k v e => ?_⟩ ⟨by rw [l1, l2], fun j k v e => ?_⟩ (by rw [l2]; exact z) fun h' tk hd' hk => ?_
  · obtain ⟨⟨b, e1, e2⟩, _⟩ := hv j k v e
    exact ⟨by simp [e1], .inl (by simp only [e1, Option.getD_some]; exact e2)⟩
  · obtain ⟨_, q, e1, e2⟩ := hv j k v e
    exact ⟨q, e1, e2⟩
  · have hm : (s.heap.objs.size == sysModules) = false := beq_eq_false_iff_ne.mpr (Nat.ne_of_gt J.big)
    have hl : (mergeK [] kvs).length ≤ sizeLine := by
      have := length_mergeK kvs []
      have := rel.length
      rw [List.length_nil] at *
      omega
    exact ⟨.ref _, _, J.laid (t' := tk) (o := .dK (mergeK [] kvs)) (fun b o e => hk b o (fun z => nomatch z) e) (Nat.le_refl _) ⟨hl, hm, _, KV.merge rel .nil, hd'⟩, rfl, q _ (J.hok.fresh (Nat.le_refl _))⟩
end
noncomputable def prsK : List D → Option (List (Key × D))
  | [] => some []
  | .tup [k, v] :: xs => (keyOf k).bind fun q => (prsK xs).map ((q, v) :: ·)
  | _ :: _ => none
noncomputable def mrgD (kvs more : List (Key × D)) : List (Key × D) := more.foldl (fun acc kv => putD acc kv.1 kv.2) kvs
noncomputable def dctP (d : D) (S : Sto) : Res DO := match d with
  | .tup xs => match prsK xs with
    | some kvs => .ok (.dct (mrgD [] kvs)) S
    | none => .bad
  | _ => .bad
noncomputable def nDctP (f : Ev D) : Ev DO := fun e S => (f e S).bind dctP
section
variable {K : PySem.W.Frag} {am : AM} {H : Hp}
theorem prsK_ok : ∀ {xs : List D} {vs : List V} {ks : List (Key × D)}, VRs K am H xs vs → prsK xs = some ks → ∃ (ps : List Addr) (kvs : List (Key × V)), vs = ps.map V.ref ∧ Paired (fun p kv => SqT K H p [kV kv.1, kv.2]) ps kvs ∧ VRk K am H ks kvs
  | _, _, _, .nil, e => by cases e; exact ⟨[], [], rfl, .nil, .nil⟩
  | _, _, ks, .cons (ds := ds) h t, e => by
    cases h with
    | @tup a us es h1 h2 =>
      cases h2 with
      | nil => simp [prsK] at e
      | cons r1 h2 =>
        cases h2 with
        | nil => simp [prsK] at e
        | cons r2 h2 =>
          cases h2 with
          | cons _ _ => simp [prsK] at e
          | nil =>
            simp only [prsK] at e
            rename_i d1 v1 d2 v2
            cases e1 : keyOf d1 with
            | none => rw [e1] at e; cases e
            | some q =>
              rw [e1, Option.bind_some] at e
              cases e2 : prsK ds with
              | none => rw [e2] at e; cases e
              | some ks' =>
                rw [e2] at e
                cases e
                obtain ⟨ps, kvs, ev, hp, hk⟩ := prsK_ok t e2
                subst ev
                have e3 := keyOf_ok r1 e1
                subst e3
                exact ⟨a :: ps, (q, v2) :: kvs, rfl, .cons h1.seq hp, .cons r2 hk⟩
    | _ => simp [prsK] at e
theorem mrg_ok : ∀ {ms : List (Key × D)} {mv : List (Key × V)} {ks : List (Key × D)} {kv : List (Key × V)}, VRk K am H ms mv → VRk K am H ks kv → VRk K am H (mrgD ks ms) (mergeK kv mv)
  | _, _, _, _, .nil, h => h
  | _, _, ks, kv, .cons (k := k) (d := d) (v := v) (ds := ds) (vs := vs) h t, h' => by
    show VRk K am H (mrgD (putD ks k d) ds) (mergeK (putK kv k v) vs)
    exact mrg_ok t (h'.put _ h)
end
section
variable {cl : Str → Addr} {W : WX} {X : Cx} {a b : Expr} {f g : Ev D} {p pos apos cpos : Pos}
theorem qn_dctP (hc : X.calm = true) (hg : Gl X "dict") (hm : X.mg "dict" = none) (ha : QE cl W X a f)
    (h0 : starEach [a] X.env = (false, eval a X.env) :: starEach [] X.env := by rfl) (hpl : (backTo pos (starEach [] X.env)).any (·.1) = false := by rfl) :
    QN cl W X (.Call (.Name "dict" p) [a] [] pos) (nDctP f) :=
  (pe_callTy (cr_dctP hc) hg hm (by decide +kernel) (pa_cons ha pa_nil h0) (by decide) (by decide) h0 hpl).imp fun σ H Q ⟨am, e, S, rs, re, q0⟩ =>
    ⟨am, e, S, rs, re, (PostN.step q0).imp fun v H1 ⟨am1, S1, d, _, g1, rs1, rv, q1⟩ => by
      cases rv with
      | @tup l us xs h1 h2 =>
        simp only [dctP] at q1
        cases e1 : prsK xs with
        | none => rw [e1] at q1; exact q1.elim
        | some ks =>
          rw [e1] at q1
          obtain ⟨ps, kvs, ev, hp, hk⟩ := prsK_ok h2 e1
          subst ev
          refine ⟨am1, l, ps, kvs, rfl, h1, hp, fun p' hp' => PostN.laid q1 g1 rs1 hp' ⟨_, upd_same, ?_⟩⟩
          exact (mrg_ok hk .nil).mono (Grow.resv hp')
      | _ => exact q1.elim⟩
/-- o.setdefault(i, []) -/
noncomputable def setd (o i : D) (S : Sto) : Res D := match o with
  | .ref n => match S[n]? with
    | some (.dct kvs) => match keyOf i with
      | some k => if kvs.length < sizeLine then match getK kvs k with
        | some d => .ok d S
        | none => .ok (.ref S.length) ((S ++ [DO.lst []]).set n (DO.dct (putD kvs k (.ref S.length)))) else .bad
      | none => .bad
    | _ => .bad
  | _ => .bad
noncomputable def eSd (f g : Ev D) : Ev D := fun e S => (f e S).bind fun o S => if (dcOf S o).isSome = true then (g e S).bind fun i S => setd o i S else .bad
theorem qe_setd {p5 : Pos} (ho : QE cl W X a f) (hi : QE cl W X b g)
    (m1 : attributeBase a "setdefault" X.env (eval a X.env) = eval a X.env := by rfl)
    (m2 : ((backTo cpos (starEach [b, .List [] p5] X.env)).all (fun x => !x.1) && (backToKw cpos (keywordEach [] X.env)).all (fun x => x.1.isSome) && decide (([b, .List [] p5] : List Expr).length + ([] : List Keyword).length + (if ([] : List Keyword).isEmpty then 0 else 1) < 30)) = true := by rfl)
    (m3 : (apos.endLine == cpos.line) = true := by rfl) (m4 : backTo cpos (starEach [b, .List [] p5] X.env) = [(false, eval b X.env), (false, eval (.List [] p5) X.env)] := by rfl) :
    QE cl W X (.Call (.Attribute a "setdefault" apos) [b, .List [] p5] [] cpos) (eSd f g) :=
  (pe_dsetd ho hi (pe_lst pa_nil) ⟨m1, m2, m3, m4⟩).imp fun σ H Q ⟨am, e, S, rs, re, q0⟩ =>
    ⟨am, e, S, rs, re, (Post.step q0).imp fun x H1 ⟨am1, S1, d1, _, g1, rs1, rv1, q1⟩ => by
      cases e1 : dcOf S1 d1 with
      | none => simp only [e1] at q1; exact q1.elim
      | some kvs0 =>
        simp only [e1, Option.isSome_some, if_true] at q1
        obtain ⟨l, us0, ev, h1, h2⟩ := dcOf_ok rs1 rv1 e1
        subst ev
        refine ⟨l, rfl, .inl ⟨us0, .inl h1⟩, am1, e, S1, rs1, re.mono g1, (Post.step q1).imp fun y H2 ⟨am2, S2, d2, _, g2, rs2, rv2, q2⟩ => ?_⟩
        refine ⟨by decide +kernel, fun q hq => ?_⟩
        have rv1' := rv1.mono g2
        cases rv1' with
        | @ref n a' hn =>
          unfold setd at q2
          simp only at q2
          cases e2 : S2[n]? with
          | none => rw [e2] at q2; exact q2.elim
          | some ob =>
            rw [e2] at q2
            cases ob with
            | dct kvs =>
              simp only at q2
              cases e3 : keyOf d2 with
              | none => rw [e3] at q2; exact q2.elim
              | some k =>
                rw [e3] at q2
                simp only at q2
                obtain ⟨us, h3, h4⟩ := rs2.ob n _ l e2 hn
                have hlq : l ≠ q := ne_of_none h3 hq
                have ek := keyOf_ok rv2 e3
                have hlen : kvs.length = us.length := h4.length
                by_cases hz : kvs.length < sizeLine
                · rw [if_pos hz] at q2
                  rcases h4.get k with ⟨n1, n2⟩ | ⟨d, v, n1, n2, n3⟩
                  · rw [n1] at q2
                    refine ⟨us, k, by rw [upd_ne hlq]; exact h3, ek, by omega, fun v hv => by (rw [n2] at hv; cases hv), fun _ => ?_⟩
                    have hnq : q ∉ am2.ad := fun z => (rs2.new hq) (am2.sub q z)
                    have g3 : Grow am2 ((am2.resv q).push q List.mem_cons_self) H2 (upd H2 q (.lst [])) := (Grow.resv hq).push List.mem_cons_self hq
                    have r3 : RelS X.K cl ((am2.resv q).push q List.mem_cons_self) (S2 ++ [DO.lst []]) (upd H2 q (.lst [])) := (rs2.resv hq).push List.mem_cons_self hnq ⟨[], upd_same, .nil⟩
                    have hn3 : ((am2.resv q).push q List.mem_cons_self).ad[n]? = some l := g3.get hn
                    have hq3 : ((am2.resv q).push q List.mem_cons_self).ad[S2.length]? = some q := by
                      show (am2.ad ++ [q])[S2.length]? = some q
                      rw [← rs2.len, List.getElem?_append_right (Nat.le_refl _), Nat.sub_self]
                      rfl
                    have hm : l ∈ ((am2.resv q).push q List.mem_cons_self).ad := List.mem_of_getElem? hn3
                    have gp := Grow.put (H := upd H2 q (.lst [])) (o := .dK (putK us k (.ref q))) hm
                    have vq : VR X.K ((am2.resv q).push q List.mem_cons_self) (upd (upd H2 q (.lst [])) l (.dK (putK us k (.ref q)))) (.ref S2.length) (.ref q) := .ref hq3
                    have ho : OR X.K cl ((am2.resv q).push q List.mem_cons_self) (upd (upd H2 q (.lst [])) l (.dK (putK us k (.ref q)))) l (.dct (putD kvs k (.ref S2.length))) := ⟨_, upd_same, ((h4.mono g3).mono gp).put k vq⟩
                    exact q2 _ _ _ (g3.trans gp) (r3.put hn3 ho) vq
                  · rw [n1] at q2
                    refine ⟨us, k, by rw [upd_ne hlq]; exact h3, ek, by omega, fun v' hv => ?_, fun hv => by (rw [n2] at hv; cases hv)⟩
                    rw [n2] at hv
                    cases hv
                    exact q2 am2 _ _ (Grow.upd hq) (rs2.upd hq) (n3.mono (Grow.upd hq))
                · rw [if_neg hz] at q2
                  exact q2.elim
            | _ => exact q2.elim
        | _ => exact q2.elim⟩
end
section
variable {f g : Ev D} {e : En} {S : Sto}
theorem ap_Sd : eSd f g e S = (f e S).bind fun o S => if (dcOf S o).isSome = true then (g e S).bind fun i S => setd o i S else .bad := id rfl
theorem ap_nDctP : nDctP f e S = (f e S).bind dctP := id rfl
end
end Pu
set_option Elab.async false
set_option linter.all false
set_option maxRecDepth 100000
set_option maxHeartbeats 1000000
namespace Pu
open PySem PySem.Spec PyProof.Rows L2
open PySem.Sem (wp)
end Pu
set_option Elab.async false
set_option linter.all false
set_option maxRecDepth 100000
namespace Pu
open PySem PySem.Spec PyProof.Rows L2
section
variable {cl : Str → Addr} {X : Cx} {i : Nat} {a : Addr} {oe : Obj} {c x y : Str} {q p1 p2 pos : Pos} {b b1 b2 v : Bool}
noncomputable def tHT (i : Nat) (a : Addr) (v : Bool) : TT := fun σ H Q => σ[i]? = some (some (.ref a)) ∧ ∀ H', (∀ b o, H b = some o → H' b = some o) → Q v H'
noncomputable abbrev HT (X : Cx) (i : Nat) (a : Addr) (t : Expr) (v : Bool) : Prop := PT X t (tHT i a v)
end
end Pu
set_option Elab.async false
set_option linter.all false
set_option maxRecDepth 100000
set_option maxHeartbeats 1000000
namespace Pu
open PySem PySem.Spec PyProof.Rows L2
end Pu
set_option Elab.async false
set_option linter.all false
set_option maxRecDepth 100000
set_option maxHeartbeats 1000000
namespace Pu
open PySem PySem.Spec PyProof.Rows L2
noncomputable def signs (x : Str) : List D := x.cps.toList.map fun c => .str ⟨#[c]⟩
noncomputable def srcTx (d : D) (S : Sto) : Res Src := match d with
  | .str x => .ok (.tmp (signs x)) S
  | _ => .bad
noncomputable def iTx (f : Ev D) : Ev Src := fun e S => (f e S).bind srcTx
noncomputable def srcRv (ds : List D) (S : Sto) : Res Src := match ds with
  | [.lst xs] => .ok (.tmp xs.reverse) S
  | [.fls xs] => .ok (.tmp xs.reverse) S
  | _ => .bad
noncomputable def iRv (f : Ev D) : Ev Src := fun e S => (eArgs [f] e S).bind srcRv
section
variable {dead vs : List Nat} {tg : Tg} {f g : Ev D} {a : Stm} {e : En} {S : Sto} {xs ys : List D} {t : Ev Bool} {x : Str}
@[simp] theorem ap_iTx : iTx f e S = (f e S).bind srcTx := id rfl
@[simp] theorem ap_iRv : iRv f e S = (eArgs [f] e S).bind srcRv := id rfl
@[simp] theorem srcTx_str : srcTx (.str x) S = .ok (.tmp (signs x)) S := id rfl
@[simp] theorem srcRv_lst : srcRv [.lst xs] S = .ok (.tmp xs.reverse) S := id rfl
@[simp] theorem srcRv_fls : srcRv [.fls xs] S = .ok (.tmp xs.reverse) S := id rfl
end
end Pu
set_option Elab.async false
set_option linter.all false
set_option maxRecDepth 100000
set_option maxHeartbeats 1000000
namespace L2
open PySem PySem.Spec PyProof.Rows
end L2
namespace Pu
open PySem PySem.Spec PyProof.Rows L2
noncomputable def insOf (S : Sto) (c : Str) : D → Option (List (Str × D))
  | .ref k => match S[k]? with
    | some (.ins c' fs) => if c' = c then some fs else none
    | _ => none
  | _ => none
@[simp] theorem insOf_ref {S : Sto} {k : Nat} {c : Str} {fs : List (Str × D)} (h : S[k]? = some (.ins c fs)) : insOf S c (.ref k) = some fs := by
  simp only [insOf, h, if_true]
/-- one attribute set -/
noncomputable def putFD (f : Str) (v : D) : List (Str × D) → List (Str × D)
  | [] => [(f, v)]
  | (g, x) :: r => if g = f then (g, v) :: r else (g, x) :: putFD f v r
section
variable {K : PySem.W.Frag} {cl : Str → Addr} {am : AM} {H : Hp} {S : Sto} {d : D} {v : V}
theorem VRf.lookup {f : Str} : ∀ {fs : List (Str × D)} {vs : List (Str × V)} {d : D}, VRf K am H fs vs → fs.lookup f = some d → ∃ v, vs.lookup f = some v ∧ VR K am H d v
  | _, _, _, .nil, h => by cases h
  | (g, x) :: fs, (g', y) :: vs, d, .cons ⟨e, r⟩ t, h => by
    have e : g = g' := e
    subst e
    rw [List.lookup_cons] at h ⊢
    by_cases hg : (f == g) = true
    · rw [hg] at h ⊢
      cases h
      exact ⟨y, rfl, r⟩
    · rw [Bool.not_eq_true] at hg
      rw [hg] at h ⊢
      exact VRf.lookup t h
theorem VRf.length : ∀ {fs : List (Str × D)} {vs : List (Str × V)}, VRf K am H fs vs → fs.length = vs.length
  | _, _, .nil => rfl
  | _, _, .cons _ t => by rw [List.length_cons, List.length_cons, VRf.length t]
theorem VRf.put {f : Str} (r : VR K am H d v) : ∀ {fs : List (Str × D)} {vs : List (Str × V)}, VRf K am H fs vs → VRf K am H (putFD f d fs) (putF f v vs)
  | _, _, .nil => .cons ⟨rfl, r⟩ .nil
  | (g, x) :: fs, (g', y) :: vs, .cons ⟨e, r'⟩ t => by
    have e : g = g' := e
    subst e
    show VRf K am H (if g = f then (g, d) :: fs else (g, x) :: putFD f d fs) (if g = f then (g, v) :: vs else (g, y) :: putF f v vs)
    by_cases hg : g = f
    · rw [if_pos hg, if_pos hg]
      exact .cons ⟨rfl, r⟩ t
    · rw [if_neg hg, if_neg hg]
      exact .cons ⟨rfl, r'⟩ (VRf.put r t)
theorem VRf.mono {am' : AM} {H' : Hp} (g : Grow am am' H H') {fs : List (Str × D)} {vs : List (Str × V)} (h : VRf K am H fs vs) : VRf K am' H' fs vs := Paired.mapP h fun p q z => ⟨z.1, z.2.mono g⟩
end
section
variable {cl : Str → Addr} {W : WX} {X : Cx} {o a : Expr} {es : List Expr} {f g h : Ev D} {fs : List (Ev D)} {pos pos' apos p : Pos} {c x m : Str}
structure MethOk (P : Program) (w : World) (K : PySem.W.Frag) (mg : Str → Option Value) (base : Heap) (cl : Str → Addr) (c m : Str) (k : Nat) (ps : List Str) (F : List D → Sto → Res D) : Prop where
  ex : ∃ f fd, FnOk P w K mg base (L2N.CX P w) k f fd ps (SpD K cl ps.length F) ∧ Meth K (cl c) m f ∧ (∀ us : List Value, us.length = ps.length → bindArgs fd ⟨us, []⟩ = pure (ps.zip us))
theorem MethOk.mono {P : Program} {w : World} {K : PySem.W.Frag} {mg : Str → Option Value} {base : Heap} {k j : Nat} {ps : List Str} {F : List D → Sto → Res D} (d : MethOk P w K mg base cl c m k ps F) (h : k ≤ j) : MethOk P w K mg base cl c m j ps F :=
  let ⟨f, fd, a, b⟩ := d.ex
  ⟨f, fd, a.mono h, b⟩
end
end Pu
set_option Elab.async false
set_option linter.all false
set_option maxRecDepth 100000
set_option maxHeartbeats 1000000
namespace L2
open PySem PySem.Spec PyProof.Rows
end L2
namespace Pu
open PySem PySem.Spec PyProof.Rows L2
section
variable {cl : Str → Addr} {W : WX} {X : Cx} {a b c : Expr} {es : List Expr} {f g h : Ev D} {fs : List (Ev D)} {pos p apos cpos mpos : Pos}
noncomputable def ii3D (ds : List D) (S : Sto) : Res D := match ds with
  | [.int i, .int j, .int k] => .ok (.int (minI (minI i j) k)) S
  | _ => .bad
noncomputable def dropD (kvs : List (Key × D)) (k : Key) : List (Key × D) := kvs.filter fun kv => decide (kv.1 ≠ k)
theorem VRk.drop {K : PySem.W.Frag} {am : AM} {H : Hp} (k : Key) : ∀ {ds : List (Key × D)} {vs : List (Key × V)}, VRk K am H ds vs → VRk K am H (dropD ds k) (dropK vs k)
  | _, _, .nil => .nil
  | _, _, .cons (k := k') (ds := ds) (vs := vs) r t => by
    have ih := VRk.drop k t
    unfold dropD dropK at ih ⊢
    rw [List.filter_cons, List.filter_cons]
    by_cases e : k' = k
    · simp only [e, ne_eq, not_true_eq_false, decide_false, Bool.false_eq_true, if_false]
      exact ih
    · simp only [e, ne_eq, not_false_eq_true, decide_true, if_true]
      exact .cons r ih
end
section
variable {f g h : Ev D} {e : En} {S : Sto} {n : Nat} {kvs : List (Key × D)} {i j k : Int} {z : D}
@[simp] theorem ii3_ap : ii3D [.int i, .int j, .int k] S = .ok (.int (minI (minI i j) k)) S := id rfl
end
end Pu
set_option Elab.async false
set_option linter.all false
set_option maxRecDepth 100000
set_option maxHeartbeats 1000000
namespace Pu
open PySem PySem.Spec PyProof.Rows L2
end Pu
set_option Elab.async false
set_option linter.all false
set_option maxRecDepth 100000
set_option maxHeartbeats 1000000
namespace Pu
open PySem PySem.Spec PyProof.Rows L2
end Pu
set_option Elab.async false
set_option linter.all false
set_option maxRecDepth 100000
set_option maxHeartbeats 1000000
namespace L2
open PySem PySem.Spec PyProof.Rows
end L2
namespace Pu
open PySem PySem.Spec PyProof.Rows L2
end Pu
set_option Elab.async false
set_option linter.all false
set_option maxRecDepth 100000
namespace Pu
open PySem PySem.Spec PyProof.Rows L2
end Pu
set_option Elab.async false
set_option linter.all false
set_option maxRecDepth 100000
namespace Pu
open PySem PySem.Spec PyProof.Rows L2
end Pu
set_option Elab.async false
set_option linter.all false
set_option maxRecDepth 100000
set_option maxHeartbeats 2000000
namespace Pu
open PySem PySem.Spec PyProof.Rows L2 HotX
open PySem.Calls
structure TurnH (P : Program) (w : World) (K : PySem.W.Frag) (z0 : Addr) (oz : Obj) (tg : Expr) (J : It) (fp : List Addr) (it : Addr) (tn : Nat → Heap → Prop) : Prop where
  obj : ∀ k h, tn k h → ∀ b ∈ fp, ∃ o, h.get? b = some o ∧ ∀ v, o.data ≠ .cell v
  keep : ∀ k h h', tn k h → (∀ b ∈ fp, ∀ o, h.get? b = some o → h'.get? b = some o) → tn k h'
  item : ∀ (X : Cx), X.prog = P → X.w = w → X.K = K → ∀ (k : Nat) (pins : List (Addr × Obj)) (s : Shared) (σ : L2.St) (H : Hp) (E : Value → Shared → Prop), Inv X pins σ H s → (∀ b ∈ fp, FpOk X pins H b) → tn k s.heap → J.go k H →
    wpAny (model P w) X.A (pyNext (.ref it)) (fun r s1 => ∃ u, r = some u ∧
      wpAny (model P w) X.A (letOwnedTupleGo tg (.ref it) u) (fun _ s2 => ∃ x H', Inv X pins σ H' s2 ∧ RelV x u ∧ J.yld k H x H' ∧ tn (k + 1) s2.heap ∧ ∀ b ∈ fp, H' b = none) E s1) E s
  done : ∀ (X : Cx), X.prog = P → X.w = w → X.K = K → X.A.handled = some (.ref z0) → ∀ (k : Nat) (pins : List (Addr × Obj)) (s : Shared) (σ : L2.St) (H : Hp) (E : Value → Shared → Prop), Inv X pins σ H s → s.heap.get? z0 = some oz → (∀ b ∈ fp, FpOk X pins H b) → tn k s.heap → J.stop k H →
    wpAny (model P w) X.A (pyNext (.ref it)) (fun r s1 => r = none ∧ Inv X pins σ H s1) E s
  self : ∀ (A : Around) (k : Nat) (s : Shared) (Q : Value → Shared → Prop) (E : Value → Shared → Prop), tn k s.heap → Q (.ref it) s → wpAny (model P w) A (pyIter (.ref it)) Q E s
  far : z0 ∉ fp
noncomputable def PIEH (X : Cx) (z0 : Addr) (oz : Obj) (pins : List (Addr × Obj)) (σ : L2.St) (tg : Expr) (R : It → Hp → Prop) (itv : Value) (s2 : Shared) : Prop :=
  ∃ (it : Addr) (fp : List Addr) (tn : Nat → Heap → Prop) (J : It) (H' : Hp), itv = .ref it ∧ Inv X pins σ H' s2 ∧ TurnH X.prog X.w X.K z0 oz tg J fp it tn ∧ tn 0 s2.heap ∧ (∀ b ∈ fp, FpOk X pins H' b) ∧ R J H'
structure PIH (X : Cx) (z0 : Addr) (oz : Obj) (tg iter : Expr) (wi : TI) : Prop where
  run : ∀ (pins : List (Addr × Obj)) (s : Shared) (σ : L2.St) (H : Hp) (R : It → Hp → Prop), Inv X pins σ H s → wi σ H R →
    wpAny (model X.prog X.w) X.A (eval iter X.env) (fun v s1 => wpAny (model X.prog X.w) X.A (pyIter v) (PIEH X z0 oz pins σ tg R) X.xe s1) X.xe s
end Pu
set_option Elab.async false
set_option linter.all false
set_option maxRecDepth 100000
set_option maxHeartbeats 1000000
namespace Pu
open PySem PySem.Spec PyProof.Rows L2
end Pu
set_option Elab.async false
set_option linter.all false
set_option maxRecDepth 100000
set_option maxHeartbeats 1000000
namespace Pu
open PySem PySem.Spec PyProof.Rows L2
end Pu
set_option Elab.async false
set_option linter.all false
set_option maxRecDepth 100000
set_option maxHeartbeats 2000000
namespace PySem
end PySem
namespace Pu
open PySem PySem.Spec PyProof.Rows L2
end Pu
set_option Elab.async false
set_option linter.all false
set_option maxRecDepth 100000
set_option maxHeartbeats 2000000
namespace Pu
open PySem PySem.Spec PyProof.Rows L2
end Pu
set_option Elab.async false
set_option linter.all false
set_option maxRecDepth 100000
set_option maxHeartbeats 2000000
namespace Pu
open PySem PySem.Spec PyProof.Rows L2
end Pu
set_option Elab.async false
set_option linter.all false
set_option maxRecDepth 100000
set_option maxHeartbeats 2000000
namespace Pu
open PySem PySem.Spec PyProof.Rows L2
end Pu
set_option Elab.async false
set_option linter.all false
set_option maxRecDepth 100000
set_option maxHeartbeats 2000000
namespace Pu
open PySem PySem.Spec PyProof.Rows L2
noncomputable def tupTwo (d : D) (k : D → D → SRes) : SRes := match d with
  | .tup [a, b] => k a b
  | _ => .bad
@[simp] theorem tupTwo_ap {a b : D} {k : D → D → SRes} : tupTwo (.tup [a, b]) k = k a b := id rfl
noncomputable def sSwap (fs : List (Ev D)) (g1 h1 g2 h2 : Ev D) : Stm := fun e S => (eTup fs e S).stm e fun d S => tupTwo d fun d1 d2 => (g1 e S).stm e fun o1 S => (h1 e S).stm e fun i1 S => (match stD o1 i1 d1 S with
    | some S => (g2 e S).stm e fun o2 S => (h2 e S).stm e fun i2 S => (match stD o2 i2 d2 S with
      | some S => .next e S
      | none => .bad)
    | none => .bad)
section
variable {cl : Str → Addr} {W : WX} {X : Cx} {a b1 c1 b2 c2 : Expr} {fs : List (Ev D)} {g1 h1 g2 h2 : Ev D} {pos p1 p2 pt : Pos} {k2 : Nat}
@[simp] theorem ap_Swap {e : En} {S : Sto} : sSwap fs g1 h1 g2 h2 e S = (eTup fs e S).stm e fun d S => tupTwo d fun d1 d2 => (g1 e S).stm e fun o1 S => (h1 e S).stm e fun i1 S => (match stD o1 i1 d1 S with
    | some S => (g2 e S).stm e fun o2 S => (h2 e S).stm e fun i2 S => (match stD o2 i2 d2 S with
      | some S => .next e S
      | none => .bad)
    | none => .bad) := id rfl
end
noncomputable def eSel (f : Ev D) (F0 F1 : List D → Sto → Res D) (fs : List (Ev D)) : Ev D := fun e S => (f e S).bind fun d S => match d with
  | .int i => (match atI [F0, F1] i with
    | some F => (eArgs fs e S).bind F
    | none => .bad)
  | _ => .bad
section
variable {cl : Str → Addr} {W : WX} {X : Cx} {a b : Expr} {es : List Expr} {f : Ev D} {fs : List (Ev D)} {pos p0 p1 pl ps' : Pos} {x0 x1 : Str}
@[simp] theorem ap_Sel {F0 F1 : List D → Sto → Res D} {e : En} {S : Sto} : eSel f F0 F1 fs e S = (f e S).bind fun d S => match d with
  | .int i => (match atI [F0, F1] i with
    | some F => (eArgs fs e S).bind F
    | none => .bad)
  | _ => .bad := id rfl
end
end Pu
set_option Elab.async false
set_option linter.all false
set_option maxRecDepth 100000
set_option maxHeartbeats 2000000
namespace Pu
open PySem PySem.Spec PyProof.Rows L2
theorem allSome_at {α : Type} : ∀ {l : List (Option α)} {r : List α} {k : Nat} {x : α}, allSome l = some r → r[k]? = some x → l[k]? = some (some x)
  | [], r, k, x, h, hx => by cases h; cases hx
  | none :: _, _, _, _, h, _ => by cases h
  | some a :: l, r, k, x, h, hx => by
    have h : (allSome l).map (a :: ·) = some r := h
    cases e : allSome l with
    | none => rw [e] at h; cases h
    | some r2 =>
      rw [e] at h
      cases h
      cases k with
      | zero => cases hx; rfl
      | succ k => exact allSome_at (l := l) e hx
theorem allSome_len {α : Type} : ∀ {l : List (Option α)} {r : List α}, allSome l = some r → r.length = l.length
  | [], r, h => by cases h; rfl
  | none :: _, _, h => by cases h
  | some a :: l, r, h => by
    have h : (allSome l).map (a :: ·) = some r := h
    cases e : allSome l with
    | none => rw [e] at h; cases h
    | some r2 =>
      rw [e] at h
      cases h
      rw [List.length_cons, List.length_cons, allSome_len e]
noncomputable def frzO (S S1 : Sto) (k : Nat) (o : DO) : Option DO := @ite _ (S[k]? = some o ∨ o.bel S.length = true) (Classical.propDecidable _) (some o) (match o with
  | .lst xs => (allSome (xs.map (frzV S.length S1 6))).map .lst
  | _ => none)
noncomputable def frzS (S S1 : Sto) : Option Sto := allSome ((List.range S.length).map fun k => (S1[k]?).bind (frzO S S1 k))
noncomputable def frzX (n : Nat) (S : Sto) (x : Option D) : Option (Option D) := match x with
  | none => some none
  | some d => (frzV n S 6 d).map some
noncomputable def frz2 (r1 : Option En) (r2 : Option Sto) : SRes := match r1, r2 with
  | some e2, some S2 => .next e2 S2
  | _, _ => .bad
noncomputable def cutR (S : Sto) (r : SRes) : SRes := match r with
  | .next e1 S1 => frz2 (allSome (e1.map (frzX S.length S1))) (frzS S S1)
  | r => r
/-- what comes up in it is held by its data at its end -/
noncomputable def sCutB (u : Stm) : Stm := fun e S => cutR S (u e S)
section
variable {K : PySem.W.Frag} {cl : Str → Addr} {W : WX} {am am' : AM} {H H' : Hp} {S S' S2 : Sto} {σ : L2.St}
theorem OR.frz {k : Nat} (rs : RelS K cl am S H) (rs' : RelS K cl am' S' H') {a : Addr} {o o' : DO} (h : OR K cl am' H' a o) (q : frzO S S' k o = some o') : OR K cl (am'.cut S.length [] rs'.nd) H' a o' := by
  unfold frzO at q
  split at q
  · rename_i hb
    cases q
    refine h.cut rs'.nd ?_
    rcases hb with hb | hb
    · obtain ⟨b, _, ho⟩ := rs.has hb
      have := ho.bel
      rw [rs.len] at this
      exact this
    · exact hb
  · cases o with
    | lst xs =>
      simp only at q
      cases e : allSome (xs.map (frzV S.length S' 6)) with
      | none => rw [e] at q; cases q
      | some ys =>
        rw [e] at q
        cases q
        obtain ⟨vs, h1, h2⟩ := h
        exact ⟨vs, h1, allSome_VRs (fun d v d' => VR.frz rs' 6 d v d') h2 e⟩
    | dct xs => cases q
    | ins c fs => cases q
    | fdc _ _ _ => cases q
    | tdc _ => cases q
theorem RelS.frz (g : Grow am am' H H') (rs : RelS K cl am S H) (rs' : RelS K cl am' S' H') (h : frzS S S' = some S2) : RelS K cl (am'.cut S.length [] rs'.nd) S2 H' := by
  have hle : S.length ≤ S'.length := by
    obtain ⟨r, e⟩ := g.pre
    rw [← rs.len, ← rs'.len, e, List.length_append]
    omega
  have hl2 := allSome_len h
  rw [List.length_map, List.length_range] at hl2
  refine ⟨?_, rs'.nd.sublist (List.take_sublist _ _), fun k o a h1 h2 => ?_, fun a ha => rs'.there a (List.mem_filter.mp ha).1⟩
  · show (am'.ad.take S.length).length = _
    rw [hl2, List.length_take, rs'.len]
    omega
  · have hk : k < S.length := by
      rw [← hl2]
      exact (List.getElem?_eq_some_iff.mp h1).1
    have q := allSome_at h h1
    rw [List.getElem?_map, List.getElem?_range hk] at q
    have q : (S'[k]?).bind (frzO S S' k) = some o := Option.some.inj q
    obtain ⟨o', e1, e2⟩ := Option.bind_eq_some_iff.mp q
    have h2 : (am'.ad.take S.length)[k]? = some a := h2
    rw [List.getElem?_take_of_lt hk] at h2
    exact OR.frz rs rs' (rs'.ob k o' a e1 h2) e2
theorem RelE.frz {n : Nat} (rs : RelS K cl am S H) {e e2 : En} (re : RelE K am H e σ) (h : allSome (e.map (frzX n S)) = some e2) : RelE K (am.cut n [] rs.nd) H e2 σ := by
  refine ⟨by rw [allSome_len h, List.length_map]; exact re.len, fun i d hd => ?_⟩
  have q := allSome_at h hd
  rw [List.getElem?_map] at q
  obtain ⟨x, e1, e3⟩ := Option.map_eq_some_iff.mp q
  cases x with
  | none => cases e3
  | some d0 =>
    have e3 : (frzV n S 6 d0).map some = some (some d) := e3
    obtain ⟨d1, e4, e5⟩ := Option.map_eq_some_iff.mp e3
    cases e5
    obtain ⟨v, h1, h2⟩ := re.get i d0 e1
    exact ⟨v, h1, VR.frz rs 6 d0 v d h2 e4⟩
end
section
variable {cl : Str → Addr} {W : WX} {X : Cx} {ss : List Stmt} {u : Stm}
@[simp] theorem ap_CutB {e : En} {S : Sto} : sCutB u e S = cutR S (u e S) := id rfl
end
noncomputable def pick3 {α : Type} (xs : List α) : List α := ((xs.take (xs.length - 3)).drop 1).reverse
section
variable {cl : Str → Addr} {W : WX} {X : Cx} {a : Expr} {f : Ev D} {pos : Pos}
noncomputable def pk3D (d : D) (S : Sto) : Res D := match lsOf S d with
  | some xs => .ok (.lst (pick3 xs)) S
  | none => .bad
@[simp] theorem pk3D_lst {xs : List D} {S : Sto} : pk3D (.lst xs) S = .ok (.lst (pick3 xs)) S := id rfl
end
end Pu
set_option Elab.async false
set_option linter.all false
set_option maxRecDepth 100000
namespace Pu
open PySem PySem.Spec PyProof.Rows L2
end Pu
set_option Elab.async false
set_option linter.all false
set_option maxRecDepth 100000
set_option maxHeartbeats 2000000
namespace Pu
open PySem PySem.Spec PyProof.Rows L2
noncomputable def lookS (tbl : List (Str × Int)) (k : Str) : Option Int := match tbl with
  | [] => none
  | (x, i) :: r => if k = x then some i else lookS r k
section
variable {cl : Str → Addr} {W : WX} {X : Cx} {e : Expr} {f : Ev D} {x : Str} {p0 apos cpos : Pos} {tbl : List (Str × Int)}
noncomputable def optD : Option Int → D
  | none => .non
  | some i => .int i
noncomputable def ggetD (tbl : List (Str × Int)) (d : D) (S : Sto) : Res D := match d with
  | .str k => .ok (optD (lookS tbl k)) S
  | _ => .bad
@[simp] theorem ggetD_str {k : Str} {S : Sto} : ggetD tbl (.str k) S = .ok (optD (lookS tbl k)) S := id rfl
end
end Pu
set_option Elab.async false
set_option linter.all false
set_option maxRecDepth 100000
set_option maxHeartbeats 2000000
namespace Pu
open PySem PySem.Spec PyProof.Rows L2
end Pu
set_option Elab.async false
set_option linter.all false
set_option maxRecDepth 100000
set_option maxHeartbeats 2000000
namespace Pu
open PySem PySem.Spec PyProof.Rows L2 HotX PySem.Calls
section
variable {X : Cx} {tg : Expr} {z0 : Addr} {oz : Obj}
theorem PIH.imp {e : Expr} {t t' : TI} (h : Pu.PIH X z0 oz tg e t) (i : ∀ σ H R, t' σ H R → t σ H R) : Pu.PIH X z0 oz tg e t' := ⟨fun pins s σ H R I q => h.run pins s σ H R I (i σ H R q)⟩
variable {cl : Str → Addr} {W : WX} {a : Expr} {f : Ev D} {p' pos : Pos}
end
inductive HR where
  | txt (z : Str) | num (z : Int) | bls (bs : List Bool)
noncomputable def HR.is : HR → Hp → V → Hp → Prop
  | .txt z, _, v, _ => v = .str z
  | .num z, _, v, _ => v = .int z
  | .bls bs, H, v, H' => ∃ p, v = .ref p ∧ H p = none ∧ H' p = some (.lst (bs.map V.bl))
structure FnV (P : Program) (w : World) (K : PySem.W.Frag) (mg : Str → Option Value) (base : Heap) (k : Nat) (f : Addr) (fd : FuncData) (ps : List Str) (cl : Str → Addr) (c : Str) (ρ : HR) : Prop where
  run : ∀ (A : Around) (outer : List PySem.Env) (s : Shared) (H : Hp) (args : Args) (us : List Value) (Q : VK) (E : XK) (p : Addr × Obj), L2H.RoomH k A → L2H.Hot1 A p → L2H.PinOk outer H s p → Env0 P w K mg base A outer s H → BindsTo s fd args (ps.zip us) → Vals [.ref p.1] us → L2N.Zn (.ref (cl c)) none p.2 →
    (∀ v H', (∀ b o, H b = some o → H' b = some o) → ρ.is H v H' → Q v H') → codeAny (model P w) A (.call (.ref f) args) (CR (L2N.CX P w) outer P w H s Q E) s
structure DefV (P : Program) (w : World) (K : PySem.W.Frag) (mg : Str → Option Value) (base : Heap) (cl : Str → Addr) (x : Str) (k : Nat) (ps : List Str) (c : Str) (ρ : HR) : Prop where
  ex : ∃ f fd, FnV P w K mg base k f fd ps cl c ρ ∧ mg x = some (.ref f) ∧ PySem.W.keepIn K (.ref f) = true ∧ ∀ us : List Value, us.length = ps.length → bindArgs fd ⟨us, []⟩ = pure (ps.zip us)
section
variable {P : Program} {w : World} {K : PySem.W.Frag} {mg : Str → Option Value} {base : Heap} {cl : Str → Addr} {ρ : HR}
theorem DefV.mono {x : Str} {k j : Nat} {ps : List Str} {c : Str} (d : DefV P w K mg base cl x k ps c ρ) (h : k ≤ j) : DefV P w K mg base cl x j ps c ρ :=
  let ⟨f, fd, a, b⟩ := d.ex
  ⟨f, fd, ⟨fun A outer s H args us Q E p hr => a.run A outer s H args us Q E p (hr.mono h)⟩, b⟩
end
end Pu
set_option Elab.async false
set_option linter.all false
set_option maxRecDepth 100000
set_option maxHeartbeats 2000000
namespace PySem.SeqAt
open AutoSeq1 (wpAny_loadPart')
open MeetsSeq MeetsSeq2 MeetsSeq3 SeqRoads2
end PySem.SeqAt
namespace Pu
open PySem PySem.Spec PyProof.Rows L2
end Pu
set_option Elab.async false
set_option linter.all false
set_option maxRecDepth 100000
set_option maxHeartbeats 2000000
namespace Pu
open PySem PySem.Spec PyProof.Rows L2
end Pu
namespace Pu
open PySem PySem.Spec PyProof.Rows L2 HotX PySem.Calls
end Pu
namespace Pu
open PySem PySem.Spec PyProof.Rows L2 HotX PySem.Calls
end Pu
set_option Elab.async false
set_option linter.all false
set_option maxRecDepth 100000
set_option maxHeartbeats 2000000
namespace Pu
open PySem PySem.Spec PyProof.Rows L2
end Pu
set_option Elab.async false
set_option linter.all false
set_option maxRecDepth 100000
set_option maxHeartbeats 2000000
namespace Pu
open PySem PySem.Spec PyProof.Rows L2
/-- the address of a tuple of ints -/
noncomputable def KeyAt (K : PySem.W.Frag) (H : Hp) (b : Addr) (ks : List Int) : Prop := ∃ am, TupAt K am H b (ks.map V.int)
noncomputable def KsAt (K : PySem.W.Frag) (H : Hp) (xs : List (List Int × Addr × Addr)) : Prop := ∀ x ∈ xs, KeyAt K H x.2.1 x.1
noncomputable def atX (xs : List (List Int × Addr × Addr)) (k : List Int) : Option (Addr × Addr) := (xs.find? fun x => decide (x.1 = k)).map (·.2)
noncomputable def gX (x : List Int × Addr × Addr) : List Int × Addr × Value := (x.1, x.2.1, .ref x.2.2)
theorem atKey_gX (k : List Int) : ∀ xs : List (List Int × Addr × Addr), atKey (xs.map gX) k = (atX xs k).map fun p => (p.1, Value.ref p.2)
  | [] => rfl
  | x :: xs => by
    have ih := atKey_gX k xs
    unfold atKey atX at ih ⊢
    rw [List.map_cons, List.find?_cons, List.find?_cons]
    by_cases h : x.1 = k
    · rw [decide_eq_true (show (gX x).1 = k from h), decide_eq_true h]
      rfl
    · rw [decide_eq_false (show ¬ (gX x).1 = k from h), decide_eq_false h]
      exact ih
theorem items_ints {P : Program} {w : World} : ∀ {ks : List Int} {its : List Value}, Vals (ks.map V.int) its → ItemsAre (intKind P w) ks its
  | [], _, .nil => .nil
  | k :: ks, _, .cons r t => .cons (by obtain ⟨u, rfl⟩ := r; exact decide_eq_true rfl) (items_ints t)
section
variable {X : Cx} {pins : List (Addr × Obj)} {σ : L2.St} {H : Hp} {s : Shared} {a b q : Addr} {k : List Int} {xs : List (List Int × Addr × Addr)} {A : Around} {E : Value → Shared → Prop}
theorem KeyAt.is (J : Inv X pins σ H s) (h : KeyAt X.K H b k) : IsTupleKey (intKind X.prog X.w) s.heap k b := by
  obtain ⟨am, h⟩ := h
  obtain ⟨its, rv, _, o, n, e, c, _, d⟩ := h.plain J
  exact ⟨o, its.toArray, n, e, c, d, items_ints rv⟩
theorem dkx_of (J : Inv X pins σ H s) (e : H a = some (.ext (dkX a xs))) (hk : KsAt X.K H xs) : (a == sysModules) = false ∧ xs.length ≤ sizeLine ∧ s.heap.DictOfH (tupleKind (intKind X.prog X.w)) a (xs.map gX) := by
  obtain ⟨⟨h1, h2⟩, o, es, ep, g, c, d, l, n⟩ := (J.hok a _ e).1
  refine ⟨h1, h2, o, es, ep, g, c, d, ?_, fun x hx => ?_, ?_⟩
  · rw [l, List.map_map]
    rfl
  · obtain ⟨y, hy, rfl⟩ := List.mem_map.mp hx
    exact (hk y hy).is J
  · rw [List.map_map]
    exact n
theorem dkx_obj {P : Program} {w : World} {H' : Hp} {h' : Heap} (h1 : (a == sysModules) = false) (h2 : xs.length ≤ sizeLine) (m : h'.DictOfH (tupleKind (intKind P w)) a (xs.map gX)) : ObjOk P w H' h' a (.ext (dkX a xs)) := by
  obtain ⟨o, es, ep, g, c, d, l, _, n⟩ := m
  rw [List.map_map] at l n
  refine ⟨⟨⟨h1, h2⟩, o, es, ep, g, c, d, l, n⟩, ⟨o, g⟩, fun g1 g2 ⟨y, o', es', ep', z1, z2⟩ kk => ⟨y, o', es', ep', kk _ z1, z2⟩⟩
theorem d_setdX {Q : Value → Shared → Prop} (I : Inv X pins σ H s) (e : H a = some (.ext (dkX a xs))) (hk : KsAt X.K H xs) (hb : KeyAt X.K H b k) (hl : xs.length < sizeLine) (hu : A.in1.units < cLine)
    (h1 : ∀ p, atX xs k = some p → ∀ s', Inv X pins σ H s' → Q (.ref p.2) s') (h2 : atX xs k = none → ∀ s', Inv X pins σ (upd H a (.ext (dkX a (xs ++ [(k, b, q)])))) s' → Q (.ref q) s') :
    wpAny (model X.prog X.w) A (call (.builtin "dict.setdefault") [.ref a, .ref b, .ref q]) Q E s := by
  obtain ⟨y, _, m⟩ := dkx_of I e hk
  refine call_setdefault_heap (knd := tupleKind (intKind X.prog X.w)) (xs := xs.map gX) (k := k) hu (hb.is I) y m (fun p hp => ?_) (fun hn h' m' hs => ?_) (by rw [List.length_map]; omega)
  · rw [atKey_gX] at hp
    cases hx : atX xs k with
    | none => rw [hx] at hp; cases hp
    | some p0 =>
      rw [hx] at hp
      cases hp
      exact h1 p0 hx _ (I.tok _)
  · have hn' : atX xs k = none := by
      rw [atKey_gX] at hn
      cases hx : atX xs k with
      | none => rfl
      | some p0 => rw [hx] at hn; cases hn
    rw [storedH_new hn] at m'
    have m' : h'.DictOfH (tupleKind (intKind X.prog X.w)) a ((xs ++ [(k, b, q)]).map gX) := by
      rw [List.map_append]
      exact m'
    have he : ∃ u, h'.get? a = some u := let ⟨o, _, _, ho, _⟩ := m'; ⟨o, ho⟩
    exact h2 hn' _ (I.write (x := a) (e := a) (by rw [e]; trivial) (.inl rfl) (fun b u hb hu => (hs.2 b hb).trans hu) he (dkx_obj y (by rw [List.length_append, List.length_singleton]; omega) m'))
end
/-- {} -/
noncomputable def tDNewX : TE := fun _ H Q => ∀ p, H p = none → Q (.ref p) (upd H p (.ext (dkX p [])))
theorem pe_dnewX {X : Cx} {pos : Pos} : PE X (.Dict [] [] pos) tDNewX := ⟨fun pins s σ H Q I h =>
  wpAny_Dict_empty ⟨.ref s.heap.objs.size, _, I.laid (a := s.heap.objs.size) (o := .ext (dkX s.heap.objs.size [])) (t' := s.toks) (fun _ _ q => Heap.get?_push_of_some _ q) (Nat.le_refl _) (dkx_obj (beq_eq_false_iff_ne.mpr (Ne.symm (Nat.ne_of_lt I.big))) (Nat.zero_le _) (Heap.DictOfH.new s.heap)), rfl, h _ (I.hok.fresh (Nat.le_refl _))⟩⟩
/-- d.setdefault(y, z) -/
noncomputable def tDSetX (K : PySem.W.Frag) (td ty tx : TE) : TE := fun σ H Q => td σ H fun x H1 => ∃ a xs0, x = .ref a ∧ H1 a = some (.ext (dkX a xs0)) ∧ KsAt K H1 xs0 ∧ ty σ H1 fun y H2 => tx σ H2 fun z H3 => ∃ (xs : List (List Int × Addr × Addr)) (k : List Int) (b q : Addr), H3 a = some (.ext (dkX a xs)) ∧ KsAt K H3 xs ∧ y = .ref b ∧ KeyAt K H3 b k ∧ z = .ref q ∧ xs.length < sizeLine ∧
  (∀ p, atX xs k = some p → Q (.ref p.2) H3) ∧ (atX xs k = none → Q z (upd H3 a (.ext (dkX a (xs ++ [(k, b, q)])))))
section
variable {X : Cx} {o e f : Expr} {td ty tx : TE} {apos cpos : Pos}
theorem pe_dsetX (hu : X.A.in1.units < cLine) (ho : PE X o td) (he : PE X e ty) (hf : PE X f tx) (m : M2 X o "setdefault" apos e f cpos) : PE X (.Call (.Attribute o "setdefault" apos) [e, f] [] cpos) (tDSetX X.K td ty tx) := by
  refine ⟨fun pins s σ H Q I h => ?_⟩
  refine wpAny_Call_method m.base m.few m.line PySem.F.plainAttrs_dict PySem.F.slot_dict_setdefault PySem.F.type_dict_setdefault (thn (ho.run pins s σ H _ I h) fun u s1 ⟨x, H1, I1, rx, a, xs0, ex, ea, ka, q1⟩ => ?_)
  subst ex
  obtain rfl : u = Value.ref a := rx
  obtain ⟨_, _, dd⟩ := dkx_of I1 ea ka
  have dd2 := dd
  obtain ⟨ob, _, _, hob, hex, _⟩ := dd2
  refine ⟨dd.typeIs, fun b0 q0 => by cases q0; exact ⟨ob, hob, hex.2.1⟩, ?_⟩
  rw [m.trees]
  refine Calls.callWith_builtin rfl (Calls.evalArgs_plain (Calls.spliced_cons (thn (he.run pins s1 σ H1 _ I1 q1) fun iv s2 ⟨y, H2, I2, ry, q2⟩ =>
    Calls.spliced_cons (thn (hf.run pins s2 σ H2 _ I2 q2) fun fv s3 ⟨z, H3, I3, rz, xs, k, b, q, eb, kb, ey, hb, ez, hl, q3, q4⟩ => Calls.spliced_nil ?_))))
  subst ey
  subst ez
  cases ry
  cases rz
  exact d_setdX I3 eb kb hb hl hu (fun p hp s4 I4 => ⟨.ref p.2, _, I4, rfl, q3 p hp⟩) fun hn s4 I4 => ⟨.ref q, _, I4, rfl, q4 hn⟩
end
/-- o[k] -/
noncomputable def rKeyX (K : PySem.W.Frag) : R2 := fun x y H Q => ∃ (a b : Addr) (xs : List (List Int × Addr × Addr)) (k : List Int) (p : Addr × Addr), x = .ref a ∧ y = .ref b ∧ H a = some (.ext (dkX a xs)) ∧ KsAt K H xs ∧ KeyAt K H b k ∧ atX xs k = some p ∧ Q (.ref p.2) H
theorem ix_keyX {X : Cx} (hu : X.A.in1.units < cLine) : IxR X (rKeyX X.K) := by
  intro value slice pins s σ H x y v u Q I rx ry h hs
  obtain ⟨a, b, xs, k, p, rfl, rfl, ea, ka, kb, hp, q⟩ := h
  cases rx
  cases ry
  obtain ⟨hd, _, m⟩ := dkx_of I ea ka
  have hT := m.typeIs
  unfold subscriptTail
  refine wpAny_bind ?_
  rw [getitemInPython_of_ne hT.not_modules]
  refine wpAny_bind (wpAny_specialOf hT PySem.F.slot_dict_getitem.lookup ?_)
  have fin : wpAny (model X.prog X.w) X.A (subscripted slice false (.ref a) (.ref b)) (fun r s₃ => wpAny (model X.prog X.w) X.A (letTemporaryGo value (.ref a) r >>= fun _ => pure r) (EP X pins σ Q) X.xe s₃) X.xe s := by
    rw [hs]
    exact wpAny_operating (wpAny_mono (wpAny_getItem_heap (knd := tupleKind (intKind X.prog X.w)) (xs := xs.map gX) (k := k) (p := (p.1, .ref p.2)) hu (kb.is I) m (by rw [atKey_gX, hp]; rfl) (⟨.ref p.2, H, I.tok _, rfl, q⟩ : EP X pins σ Q (.ref p.2) _)) (fun r s₃ h₃ => wpAny_bind (wpAny_letTemporaryGo (wpAny_pure h₃))) fun _ _ x => x)
  first
    | exact wpAny_pure (wpAny_bind fin)
    | exact wpAny_bind (wpAny_pure (wpAny_bind fin))
    | exact wpAny_bind fin
noncomputable def leX (p q : List Int × Addr × Addr) : Bool := decide (p.1 ≤ q.1)
noncomputable def encX (x : List Int × Addr × Addr) : PyData := .tuple (x.1.map .int)
theorem leX_data : PySem.W.dataLe false encX = leX := by
  funext p q
  show (!PySem.W.dataLt (.tuple (q.1.map .int)) (.tuple (p.1.map .int))) = _
  rw [PySem.W.dataLt_tuple]
  show (!PySem.W.rowLt (q.1.map .int) (p.1.map .int)) = _
  rw [PySem.W.dataLt_ints]
  unfold leX
  by_cases h : q.1 < p.1
  · have h' : ¬ p.1 ≤ q.1 := fun r => List.not_lt.mpr r h
    simp [h, h']
  · have h' : p.1 ≤ q.1 := List.not_lt.mp h
    simp [h, h']
theorem reads_ints {P : Program} {w : World} {h : Heap} : ∀ {ks : List Int} {its : List Value}, ItemsAre (intKind P w) ks its → ReadsAll h its (ks.map .int) []
  | _, _, .nil => .nil
  | _, _, .cons r t => by
    obtain ⟨u, rfl⟩ := Value.isInt_shape r
    exact ReadsAll.cons (.int _ _) (reads_ints t)
theorem reads_key {P : Program} {w : World} {h : Heap} {k : List Int} {b : Addr} (x : IsTupleKey (intKind P w) h k b) : Reads h (.ref b) (.tuple (k.map .int)) [] := by
  obtain ⟨o, its, n, e, c, d, i⟩ := x
  exact reads_tuple_at e c d (reads_ints i)
theorem each_refs {R : Value → List Int × Addr × Addr → Prop} : ∀ (xs : List (List Int × Addr × Addr)), (∀ x ∈ xs, R (.ref x.2.1) x) → PySem.W.EachIs R (xs.map fun x => Value.ref x.2.1) xs
  | [], _ => .nil
  | x :: xs, h => .cons (h x List.mem_cons_self) (each_refs xs fun y hy => h y (List.mem_cons_of_mem _ hy))
theorem refs_each : ∀ {vs : List Value} {xs : List (List Int × Addr × Addr)}, PySem.W.EachIs (fun v x => v = Value.ref x.2.1) vs xs → vs = xs.map fun x => Value.ref x.2.1
  | _, [], .nil => rfl
  | _, _ :: _, .cons h t => by rw [h, refs_each t]; rfl
theorem vals_X : ∀ xs : List (List Int × Addr × Addr), Vals (xs.map fun x => V.ref x.2.1) (xs.map fun x => Value.ref x.2.1)
  | [] => .nil
  | _ :: r => .cons rfl (vals_X r)
noncomputable def rSortedTX (K : PySem.W.Frag) : List V → Hp → VK → Prop := fun vs H Q => ∃ (a : Addr) (xs : List (List Int × Addr × Addr)), vs = [.ref a] ∧ H a = some (.ext (dkX a xs)) ∧ KsAt K H xs ∧ xs.length < 100000 ∧ ((∀ x ∈ xs, x.1 ≠ []) ∨ xs.length ≤ 1) ∧
  ∀ p, H p = none → Q (.ref p) (upd H p (.lst ((xs.mergeSort leX).map fun x => V.ref x.2.1)))
theorem short_sort {α : Type} (le : α → α → Bool) {xs : List α} (h : xs.length ≤ 1) : xs.mergeSort le = xs := by
  match xs, h with
  | [], _ => simp
  | [x], _ => simp
theorem short_perm {α : Type} {l m : List α} (p : l.Perm m) (h : m.length ≤ 1) : l = m := by
  match m, h with
  | [], _ => exact List.Perm.eq_nil p
  | [x], _ => exact List.perm_singleton.mp p
theorem call_sortedTX {X : Cx} (hcalm : X.calm = true) (hu : X.A.units + 16 < cLine) : CallR X (.builtin "sorted") (rSortedTX X.K) := by
  intro pins s σ H vs us Q I r q
  obtain ⟨a, xs, rfl, ea, ka, h64, hne, q⟩ := q
  rw [Vals.ref1 r]
  obtain ⟨lo, _, m⟩ := dkx_of I ea ka
  obtain ⟨o, es, ep, ho, hx, hd, he, _, _⟩ := m
  have l1 : es.size = xs.length := by rw [size_of_entries he, List.length_map]
  have h16 : es.size ≤ sizeLine := by rw [l1, sizeLine_eq]; omega
  refine Calls.call_function_entry kind_sorted plain_sorted entry_sorted (args_sorted1 (.ref a)) (by
    unfold Builtin.«sorted»
    refine wpAny_bind (m := checkCount "sorted" 1 1 _) (wpAny_pure (wpAny_bind (PySem.W.kdu_collect (A := X.A.in1) (kdl_raw lo hx hd) (I.ok.hd hcalm) ho h16 fun h' tk acc hk hacc => ?_)))
    have ev : acc.toList = xs.map fun x => Value.ref x.2.1 := by
      have hl : acc.toList.length = xs.length := by rw [Array.length_toList, hacc.1]; exact l1
      apply List.ext_getElem?
      intro j
      rw [List.getElem?_map]
      cases hj : acc.toList[j]? with
      | none =>
        have h1 := List.getElem?_eq_none_iff.mp hj
        rw [List.getElem?_eq_none (by omega)]
        rfl
      | some v =>
        obtain ⟨en, hen, hv⟩ := hacc.2 j v (by rw [← Array.getElem?_toList]; exact hj)
        have qe := entry_at he j
        rw [hen, List.getElem?_map] at qe
        cases hb : xs[j]? with
        | none => rw [hb] at qe; cases qe
        | some b =>
          rw [hb] at qe
          have e2 : en = entryOfKey (tupleKind (intKind X.prog X.w)) (gX b) := Option.some.inj qe
          rw [hv, e2]
          rfl
    rw [ev]
    have vz : (xs.map fun x => Value.ref x.2.1).length ≤ sizeLine := by rw [List.length_map, sizeLine_eq]; omega
    refine wpAny_bind (wpAny_newList ?_ vz)
    have at1 : (h'.push (seqObj "list" (xs.map fun x => Value.ref x.2.1).toArray 0)).get? h'.objs.size = some (seqObj "list" (xs.map fun x => Value.ref x.2.1).toArray 0) := Heap.get?_push_size _ rfl
    have I1 : Inv X pins σ H { s with heap := h', toks := tk } := I.kept hk
    have fin : ∀ out : List Value, out = ((xs.mergeSort leX).map fun x => Value.ref x.2.1) → EP X pins σ Q (.ref h'.objs.size) { s with heap := sortedHeap (h'.push (seqObj "list" (xs.map fun x => Value.ref x.2.1).toArray 0)) h'.objs.size (xs.map fun x => Value.ref x.2.1) out.toArray, toks := tk } := fun out eo => by
      obtain ⟨c, hc⟩ : ∃ n, (sortedHeap (h'.push (seqObj "list" (xs.map fun x => Value.ref x.2.1).toArray 0)) h'.objs.size (xs.map fun x => Value.ref x.2.1) out.toArray).get? h'.objs.size = some (seqObj "list" out.toArray n) := sortedHeap_at at1
      have le : ((xs.mergeSort leX).map fun x => V.ref x.2.1).length ≤ sizeLine := by rw [List.length_map, List.length_mergeSort, sizeLine_eq]; omega
      refine ⟨.ref h'.objs.size, upd H h'.objs.size (.lst ((xs.mergeSort leX).map fun x => V.ref x.2.1)), I1.laid (t' := tk) (fun b u e => ?_) (Nat.le_refl _) ⟨le, out, c, by rw [eo]; exact vals_X _, hc⟩, rfl, q _ (I1.hok.fresh (Nat.le_refl _))⟩
      have lt : b < h'.objs.size := Heap.lt_size e
      rw [show (sortedHeap (h'.push (seqObj "list" (xs.map fun x => Value.ref x.2.1).toArray 0)) h'.objs.size (xs.map fun x => Value.ref x.2.1) out.toArray).get? b = (h'.push (seqObj "list" (xs.map fun x => Value.ref x.2.1).toArray 0)).get? b from sortedHeap_old (Nat.ne_of_lt lt) (by rw [size_push']; exact Nat.lt_succ_of_lt lt)]
      exact Heap.get?_push_of_some _ e
    by_cases h1 : xs.length ≤ 1
    · refine wpAny_bind (wpAny_holding (wpAny_call_entry slot_list_sort ⟨_, at1, rfl⟩ entry_list_sort (SrtO.list_sort_ord SrtO.swo_int at1 vz (fun h2 => absurd h2 (by rw [List.length_map]; omega)) fun out hs hb => ⟨_, rfl, ?_⟩) (args_list_sort _)))
      exact wpAny_pure ⟨_, rfl, fin out (by rw [short_sort leX h1]; exact short_perm hb.perm (by rw [List.length_map]; exact h1))⟩
    · have hne : ∀ x ∈ xs, x.1 ≠ [] := hne.resolve_right h1
      have rd : ∀ x ∈ xs, Reads (h'.push (seqObj "list" (xs.map fun x => Value.ref x.2.1).toArray 0)) (.ref x.2.1) (encX x) [] := fun x hx => PyProof.Rows.Reads.keeps (fun b u e => Heap.get?_push_of_some _ e) (reads_key ((ka x hx).is I1))
      refine wpAny_bind (wpAny_holding (PySem.W.list_sort_data (R := fun v x => v = Value.ref x.2.1) (enc := encX) (bs := xs) at1 (each_refs xs fun _ _ => rfl) (each_refs xs fun x hx => ⟨[], rd x hx, List.not_mem_nil⟩) ?_ ?_ (by rw [sizeLine_eq]; omega) ?_ fun out ho heach => ?_))
      · exact PySem.W.AllAlike.of fun p q => by
          show PySem.W.alike (.tuple (p.1.map .int)) (.tuple (q.1.map .int)) = true
          unfold PySem.W.alike
          exact PySem.W.alike_ints _ _
      · refine .inl fun d hd => ?_
        obtain ⟨x, hx, rfl⟩ := List.mem_map.mp hd
        obtain ⟨i, r, e⟩ := List.exists_cons_of_ne_nil (hne x hx)
        exact ⟨.int i, r.map .int, by show PyData.tuple (x.1.map .int) = _; rw [e]; rfl⟩
      · intro x _
        have : (encX x).depth ≤ 4 := by
          show (PyData.tuple (x.1.map .int)).depth ≤ 4
          unfold PyData.depth
          rw [PySem.W.depth_ints]
          omega
        have u1 : X.A.in1.units = X.A.units + 1 := rfl
        omega
      · rw [leX_data] at heach
        exact wpAny_pure ⟨_, rfl, fin out (refs_each heach)⟩)
noncomputable def unIs : List D → Option (List Int)
  | [] => some []
  | .int i :: r => (unIs r).map (i :: ·)
  | _ => none
theorem unIs_map : ∀ ns : List Int, unIs (ns.map D.int) = some ns
  | [] => rfl
  | n :: ns => by
    show (unIs (ns.map D.int)).map (n :: ·) = _
    rw [unIs_map ns]
    rfl
theorem unIs_eq : ∀ {xs : List D} {ns : List Int}, unIs xs = some ns → xs = ns.map D.int
  | [], ns, e => by cases e; rfl
  | x :: r, ns, e => by
    cases x with
    | int i =>
      have e : (unIs r).map (i :: ·) = some ns := e
      cases h : unIs r with
      | none => rw [h] at e; cases e
      | some m =>
        rw [h] at e
        cases e
        rw [unIs_eq h]
        rfl
    | _ => cases e
noncomputable def keyT : D → Option (List Int)
  | .tup xs => unIs xs
  | _ => none
noncomputable abbrev tupI (k : List Int) : D := .tup (k.map D.int)
theorem keyT_tup (k : List Int) : keyT (tupI k) = some k := unIs_map k
noncomputable def getT (kvs : List (List Int × D)) (k : List Int) : Option D := (kvs.find? fun p => decide (p.1 = k)).map (·.2)
noncomputable def tdcOf (S : Sto) : D → Option (List (List Int × D))
  | .ref n => match S[n]? with
    | some (.tdc kvs) => some kvs
    | _ => none
  | _ => none
section
variable {K : PySem.W.Frag} {cl : Str → Addr} {am : AM} {H : Hp} {S : Sto}
theorem vrs_intsV : ∀ {ns : List Int} {vs : List V}, VRs K am H (ns.map D.int) vs → vs = ns.map V.int
  | [], _, .nil => rfl
  | _ :: _, _, .cons (.int _) t => by rw [vrs_intsV t]; rfl
theorem vr_key {k : List Int} {v : V} (h : VR K am H (tupI k) v) : ∃ b, v = .ref b ∧ KeyAt K H b k := by
  cases h with
  | tup h hs =>
    rw [vrs_intsV hs] at h
    exact ⟨_, rfl, am, h⟩
theorem vr_keyT {d : D} {k : List Int} {v : V} (h : VR K am H d v) (e : keyT d = some k) : d = tupI k ∧ ∃ b, v = .ref b ∧ KeyAt K H b k := by
  cases d with
  | tup xs =>
    have e : unIs xs = some k := e
    have := unIs_eq e
    subst this
    exact ⟨rfl, vr_key h⟩
  | _ => cases e
theorem tdcOf_ok {d : D} {v : V} {kvs : List (List Int × D)} (rs : RelS K cl am S H) (rv : VR K am H d v) (e : tdcOf S d = some kvs) : ∃ n a xs, d = .ref n ∧ v = .ref a ∧ S[n]? = some (.tdc kvs) ∧ am.ad[n]? = some a ∧ H a = some (.ext (dkX a xs)) ∧ VRt K am H kvs xs := by
  cases rv with
  | @ref n a h =>
    unfold tdcOf at e
    simp only at e
    cases q : S[n]? with
    | none => rw [q] at e; cases e
    | some o =>
      rw [q] at e
      cases o with
      | tdc ks =>
        cases e
        obtain ⟨xs, h1, h2⟩ := rs.ob n _ a q h
        exact ⟨n, a, xs, rfl, rfl, q, h, h1, h2⟩
      | _ => cases e
  | _ => cases e
theorem vrt_ks : ∀ {kvs : List (List Int × D)} {xs : List (List Int × Addr × Addr)}, VRt K am H kvs xs → KsAt K H xs
  | _, _, .nil => fun x hx => absurd hx List.not_mem_nil
  | _, _, .cons (a := p) (b := q) r t => fun x hx => by
    rcases List.mem_cons.mp hx with rfl | hx
    · obtain ⟨r1, r2, _⟩ := r
      rw [r1] at r2
      obtain ⟨b, e, kb⟩ := vr_key r2
      cases e
      exact kb
    · exact vrt_ks t x hx
theorem vrt_keys : ∀ {kvs : List (List Int × D)} {xs : List (List Int × Addr × Addr)}, VRt K am H kvs xs → kvs.map (·.1) = xs.map (·.1)
  | _, _, .nil => rfl
  | _, _, .cons r t => by rw [List.map_cons, List.map_cons, r.1, vrt_keys t]
theorem vrt_tup : ∀ {kvs : List (List Int × D)} {xs : List (List Int × Addr × Addr)}, VRt K am H kvs xs → ∀ x ∈ xs, VR K am H (tupI x.1) (.ref x.2.1)
  | _, _, .nil => fun x hx => absurd hx List.not_mem_nil
  | _, _, .cons r t => fun x hx => by
    rcases List.mem_cons.mp hx with rfl | hx
    · have := r.2.1
      rw [r.1] at this
      exact this
    · exact vrt_tup t x hx
theorem vrt_get (k : List Int) : ∀ {kvs : List (List Int × D)} {xs : List (List Int × Addr × Addr)}, VRt K am H kvs xs → (getT kvs k = none ∧ atX xs k = none) ∨ ∃ d p, getT kvs k = some d ∧ atX xs k = some p ∧ VR K am H d (.ref p.2)
  | _, _, .nil => .inl ⟨rfl, rfl⟩
  | _, _, .cons (a := p) (b := q) r t => by
    have ih := vrt_get k t
    unfold getT atX at ih ⊢
    rw [List.find?_cons, List.find?_cons]
    by_cases h : p.1 = k
    · have h' : q.1 = k := by rw [← r.1]; exact h
      rw [decide_eq_true h, decide_eq_true h']
      exact .inr ⟨_, _, rfl, rfl, r.2.2⟩
    · have h' : ¬ q.1 = k := by rw [← r.1]; exact h
      rw [decide_eq_false h, decide_eq_false h']
      exact ih
theorem vrt_len : ∀ {kvs : List (List Int × D)} {xs : List (List Int × Addr × Addr)}, VRt K am H kvs xs → kvs.length = xs.length
  | _, _, .nil => rfl
  | _, _, .cons _ t => by rw [List.length_cons, List.length_cons, vrt_len t]
theorem vrt_app : ∀ {kvs : List (List Int × D)} {xs : List (List Int × Addr × Addr)} {p : List Int × D} {q : List Int × Addr × Addr}, VRt K am H kvs xs → p.1 = q.1 ∧ VR K am H (.tup (p.1.map D.int)) (.ref q.2.1) ∧ VR K am H p.2 (.ref q.2.2) → VRt K am H (kvs ++ [p]) (xs ++ [q])
  | _, _, _, _, .nil, r => .cons r .nil
  | _, _, _, _, .cons h t, r => .cons h (vrt_app t r)
theorem vrt_mono {am' : AM} {H' : Hp} (g : Grow am am' H H') {kvs : List (List Int × D)} {xs : List (List Int × Addr × Addr)} (h : VRt K am H kvs xs) : VRt K am' H' kvs xs := Paired.mapP h fun p q z => ⟨z.1, z.2.1.mono g, z.2.2.mono g⟩
end
theorem un_of {A : Around} {k : Nat} (hr : Room k A) : A.units + 16 < cLine := by have := hr.un; omega
noncomputable def nTdc0 : Ev DO := fun _ S => .ok (.tdc []) S
/-- o.setdefault(k, []) -/
noncomputable def setdT (o i : D) (S : Sto) : Res D := match o with
  | .ref n => match tdcOf S (.ref n) with
    | some kvs => match keyT i with
      | some k => if kvs.length < 100000 then match getT kvs k with
        | some d => .ok d S
        | none => .ok (.ref S.length) ((S ++ [DO.lst []]).set n (DO.tdc (kvs ++ [(k, .ref S.length)]))) else .bad
      | none => .bad
    | none => .bad
  | _ => .bad
noncomputable def eSdT (f g : Ev D) : Ev D := fun e S => (f e S).bind fun o S => if (tdcOf S o).isSome = true then (g e S).bind fun i S => setdT o i S else .bad
noncomputable def ixT (d i : D) (S : Sto) : Res D := match tdcOf S d with
  | some kvs => match keyT i with
    | some k => opt (getT kvs k) S
    | none => .bad
  | none => .bad
noncomputable def leK (p q : List Int) : Bool := decide (p ≤ q)
noncomputable def sortT (ks : List (List Int)) : List (List Int) := ks.mergeSort leK
noncomputable def sortTD (d : D) (S : Sto) : Res DO := match tdcOf S d with
  | some kvs => if kvs.length < 4000 ∧ ((∀ p ∈ kvs, p.1 ≠ []) ∨ kvs.length ≤ 1) then .ok (.lst ((sortT (kvs.map (·.1))).map tupI)) S else .bad
  | none => .bad
noncomputable def nSortT (f : Ev D) : Ev DO := fun e S => (f e S).bind sortTD
theorem vrs_sorted {K : PySem.W.Frag} {am : AM} {H : Hp} : ∀ (xs : List (List Int × Addr × Addr)), (∀ x ∈ xs, VR K am H (tupI x.1) (.ref x.2.1)) → VRs K am H (xs.map fun x => tupI x.1) (xs.map fun x => V.ref x.2.1)
  | [], _ => .nil
  | x :: xs, h => .cons (h x List.mem_cons_self) (vrs_sorted xs fun y hy => h y (List.mem_cons_of_mem _ hy))
section
variable {cl : Str → Addr} {W : WX} {X : Cx} {a b : Expr} {f g : Ev D} {p pos apos cpos : Pos}
theorem qn_tdc0 : QN cl W X (.Dict [] [] pos) nTdc0 := pe_dnewX.imp fun σ H Q ⟨am, e, S, rs, re, p⟩ => fun q hq => PostN.laid p .refl rs hq ⟨[], upd_same, .nil⟩
theorem qe_ixT (hu : X.A.units + 16 < cLine) (ha : QE cl W X a f) (hb : QE cl W X b g) (hs : PlainIx b := by intro _ _; rfl) : QE cl W X (.Subscript a b pos) (e2 ixT f g) :=
  (pe_ix (ix_keyX (by show X.A.units + 1 < cLine; omega)) ha hb hs).imp (imp_2 fun W σ am S H d e v u Q rs h1 h2 p => by
    unfold ixT at p
    cases q : tdcOf S d with
    | none => rw [q] at p; exact p.elim
    | some kvs =>
      rw [q] at p
      simp only at p
      obtain ⟨n, a', xs, _, ev, _, _, hx, hr⟩ := tdcOf_ok rs h1 q
      cases q2 : keyT e with
      | none => rw [q2] at p; exact p.elim
      | some k =>
        rw [q2] at p
        simp only at p
        obtain ⟨_, b', eu, kb⟩ := vr_keyT h2 q2
        rcases vrt_get k hr with ⟨g1, _⟩ | ⟨d', p', g1, g2, rv⟩
        · rw [g1] at p; exact p.elim
        · rw [g1] at p
          exact ⟨a', b', xs, k, p', ev, eu, hx, vrt_ks hr, kb, g2, p am _ H .refl rs rv⟩)
theorem qn_sortT (hu : X.A.units + 16 < cLine) (hc : X.calm = true) (hg : Gl X "sorted") (hm : X.mg "sorted" = none) (ha : QE cl W X a f)
    (h0 : starEach [a] X.env = (false, eval a X.env) :: starEach [] X.env := by rfl) (hpl : (backTo pos (starEach [] X.env)).any (·.1) = false := by rfl) :
    QN cl W X (.Call (.Name "sorted" p) [a] [] pos) (nSortT f) :=
  (pe_callB (call_sortedTX hc hu) hg hm (by decide +kernel) (pa_cons ha pa_nil h0) (by decide) (by decide) h0 hpl).imp fun σ H Q ⟨am, e, S, rs, re, q0⟩ =>
    ⟨am, e, S, rs, re, (PostN.step q0).imp fun v H1 ⟨am1, S1, d, _, g1, rs1, rv, q1⟩ => by
      unfold sortTD at q1
      cases e1 : tdcOf S1 d with
      | none => rw [e1] at q1; exact q1.elim
      | some kvs =>
        rw [e1] at q1
        simp only at q1
        by_cases hl : kvs.length < 4000 ∧ ((∀ p ∈ kvs, p.1 ≠ []) ∨ kvs.length ≤ 1)
        · rw [if_pos hl] at q1
          obtain ⟨n, a', xs, _, ev, _, _, hx, hr⟩ := tdcOf_ok rs1 rv e1
          subst ev
          have ln := vrt_len hr
          have ke := vrt_keys hr
          refine ⟨a', xs, rfl, hx, vrt_ks hr, by omega, hl.2.imp (fun h x hx => ?_) (fun h => by omega), fun p' hp' => ?_⟩
          · have : x.1 ∈ kvs.map (·.1) := by rw [ke]; exact List.mem_map.mpr ⟨x, hx, rfl⟩
            obtain ⟨y, hy, e⟩ := List.mem_map.mp this
            rw [← e]
            exact h y hy
          · refine PostN.laid q1 g1 rs1 hp' ⟨_, upd_same, ?_⟩
            have es : (sortT (kvs.map (·.1))).map tupI = (xs.mergeSort leX).map fun x => tupI x.1 := by
              unfold sortT
              rw [ke, ← List.map_mergeSort (r := leX) (s := leK) (f := fun x : List Int × Addr × Addr => x.1) (fun _ _ _ _ => rfl), List.map_map]
              rfl
            rw [es]
            exact vrs_sorted _ fun x hx => ((vrt_tup hr) x (List.mem_mergeSort.mp hx)).mono (Grow.resv hp')
        · rw [if_neg hl] at q1
          exact q1.elim⟩
theorem qe_setdT {p5 : Pos} (hu : X.A.units + 16 < cLine) (ho : QE cl W X a f) (hi : QE cl W X b g)
    (m1 : attributeBase a "setdefault" X.env (eval a X.env) = eval a X.env := by rfl)
    (m2 : ((backTo cpos (starEach [b, .List [] p5] X.env)).all (fun x => !x.1) && (backToKw cpos (keywordEach [] X.env)).all (fun x => x.1.isSome) && decide (([b, .List [] p5] : List Expr).length + ([] : List Keyword).length + (if ([] : List Keyword).isEmpty then 0 else 1) < 30)) = true := by rfl)
    (m3 : (apos.endLine == cpos.line) = true := by rfl) (m4 : backTo cpos (starEach [b, .List [] p5] X.env) = [(false, eval b X.env), (false, eval (.List [] p5) X.env)] := by rfl) :
    QE cl W X (.Call (.Attribute a "setdefault" apos) [b, .List [] p5] [] cpos) (eSdT f g) :=
  (pe_dsetX (by show X.A.units + 1 < cLine; omega) ho hi (pe_lst pa_nil) ⟨m1, m2, m3, m4⟩).imp fun σ H Q ⟨am, e, S, rs, re, q0⟩ =>
    ⟨am, e, S, rs, re, (Post.step q0).imp fun x H1 ⟨am1, S1, d1, _, g1, rs1, rv1, q1⟩ => by
      cases e1 : tdcOf S1 d1 with
      | none => simp only [e1] at q1; exact q1.elim
      | some kvs0 =>
        simp only [e1, Option.isSome_some, if_true] at q1
        obtain ⟨n, l, xs0, ed, ev, _, hn, hx0, hr0⟩ := tdcOf_ok rs1 rv1 e1
        subst ev
        subst ed
        refine ⟨l, xs0, rfl, hx0, vrt_ks hr0, am1, e, S1, rs1, re.mono g1, (Post.step q1).imp fun y H2 ⟨am2, S2, d2, _, g2, rs2, rv2, q2⟩ => ?_⟩
        refine ⟨by decide +kernel, fun q hq => ?_⟩
        have rv1' := rv1.mono g2
        unfold setdT at q2
        simp only at q2
        cases e2 : tdcOf S2 (.ref n) with
        | none => rw [e2] at q2; exact q2.elim
        | some kvs =>
          rw [e2] at q2
          simp only at q2
          cases e3 : keyT d2 with
          | none => rw [e3] at q2; exact q2.elim
          | some k =>
            rw [e3] at q2
            simp only at q2
            obtain ⟨n', l', xs, ed', ev', hs, hn2, hx, hr⟩ := tdcOf_ok rs2 rv1' e2
            cases ev'
            cases ed'
            obtain ⟨ek, b', eb, kb⟩ := vr_keyT rv2 e3
            subst eb
            subst ek
            have hlq : l ≠ q := ne_of_none hx hq
            have ln := vrt_len hr
            have gq : Grow am2 am2 H2 (upd H2 q (.lst [])) := Grow.upd hq
            by_cases hz : kvs.length < 100000
            · rw [if_pos hz] at q2
              have kb' : ∀ {am' : AM} {H' : Hp}, Grow am2 am' H2 H' → KeyAt X.K H' b' k := fun {am' H'} gg => by
                obtain ⟨b'', e, z⟩ := vr_key (rv2.mono gg)
                cases e
                exact z
              rcases vrt_get k hr with ⟨n1, n2⟩ | ⟨d, pp, n1, n2, n3⟩
              · rw [n1] at q2
                refine ⟨xs, k, b', q, by rw [upd_ne hlq]; exact hx, vrt_ks (vrt_mono gq hr), rfl, kb' gq, rfl, by rw [sizeLine_eq]; omega, fun pp hp => (by rw [n2] at hp; cases hp), fun _ => ?_⟩
                have hnq : q ∉ am2.ad := fun z => (rs2.new hq) (am2.sub q z)
                have g3 : Grow am2 ((am2.resv q).push q List.mem_cons_self) H2 (upd H2 q (.lst [])) := (Grow.resv hq).push List.mem_cons_self hq
                have r3 : RelS X.K cl ((am2.resv q).push q List.mem_cons_self) (S2 ++ [DO.lst []]) (upd H2 q (.lst [])) := (rs2.resv hq).push List.mem_cons_self hnq ⟨[], upd_same, .nil⟩
                have hn3 : ((am2.resv q).push q List.mem_cons_self).ad[n]? = some l := g3.get hn2
                have hq3 : ((am2.resv q).push q List.mem_cons_self).ad[S2.length]? = some q := by
                  show (am2.ad ++ [q])[S2.length]? = some q
                  rw [← rs2.len, List.getElem?_append_right (Nat.le_refl _), Nat.sub_self]
                  rfl
                have hm : l ∈ ((am2.resv q).push q List.mem_cons_self).ad := List.mem_of_getElem? hn3
                have gp := Grow.put (H := upd H2 q (.lst [])) (o := .ext (dkX l (xs ++ [(k, b', q)]))) hm
                have vq : VR X.K ((am2.resv q).push q List.mem_cons_self) (upd (upd H2 q (.lst [])) l (.ext (dkX l (xs ++ [(k, b', q)])))) (.ref S2.length) (.ref q) := .ref hq3
                have ho : OR X.K cl ((am2.resv q).push q List.mem_cons_self) (upd (upd H2 q (.lst [])) l (.ext (dkX l (xs ++ [(k, b', q)])))) l (.tdc (kvs ++ [(k, .ref S2.length)])) := ⟨_, upd_same, vrt_app (vrt_mono gp (vrt_mono g3 hr)) ⟨rfl, (rv2.mono g3).mono gp, vq⟩⟩
                exact q2 _ _ _ (g3.trans gp) (r3.put hn3 ho) vq
              · rw [n1] at q2
                refine ⟨xs, k, b', q, by rw [upd_ne hlq]; exact hx, vrt_ks (vrt_mono gq hr), rfl, kb' gq, rfl, by rw [sizeLine_eq]; omega, fun pp' hp => ?_, fun hv => by (rw [n2] at hv; cases hv)⟩
                rw [n2] at hp
                cases hp
                exact q2 am2 _ _ (Grow.upd hq) (rs2.upd hq) (n3.mono (Grow.upd hq))
            · rw [if_neg hz] at q2
              exact q2.elim⟩
end
section
variable {f g : Ev D} {e : En} {S : Sto}
theorem ap_SdT : eSdT f g e S = (f e S).bind fun o S => if (tdcOf S o).isSome = true then (g e S).bind fun i S => setdT o i S else .bad := id rfl
theorem ap_nSortT : nSortT f e S = (f e S).bind sortTD := id rfl
theorem ap_nTdc0 : nTdc0 e S = .ok (.tdc []) S := id rfl
theorem tdcOf_at {n : Nat} {kvs : List (List Int × D)} (h : S[n]? = some (.tdc kvs)) : tdcOf S (.ref n) = some kvs := by
  unfold tdcOf
  simp only [h]
end
end Pu
set_option Elab.async false
set_option linter.all false
set_option maxRecDepth 100000
namespace Pu
open PySem PySem.Spec PyProof.Rows L2
end Pu
set_option Elab.async false
set_option linter.all false
set_option maxRecDepth 100000
set_option maxHeartbeats 4000000
namespace Lw
open PySem PySem.Spec PyProof.Rows L2 Pu
section
variable {p : List Value → Prop}
theorem us1 (h : ∀ a0, p [a0]) : ∀ us : List Value, us.length = 1 → p us
  | [_], _ => h _
theorem us2 (h : ∀ a0 a1, p [a0, a1]) : ∀ us : List Value, us.length = 2 → p us
  | [_, _], _ => h _ _
theorem us3 (h : ∀ a0 a1 a2, p [a0, a1, a2]) : ∀ us : List Value, us.length = 3 → p us
  | [_, _, _], _ => h _ _ _
theorem us4 (h : ∀ a0 a1 a2 a3, p [a0, a1, a2, a3]) : ∀ us : List Value, us.length = 4 → p us
  | [_, _, _, _], _ => h _ _ _ _
end
noncomputable def topS (i : Nat) : Stmt := PySem.Challenge.pw_walkframe_k30_passes_and_cascades.main.body.getD i (.Pass ⟨0, 0, 0, 0⟩)
structure Bt (K : PySem.W.Frag) (mg : Str → Option Value) : Prop where
  dict : mg "dict" = none
  int : mg "int" = none
  len : mg "len" = none
  range : mg "range" = none
  sorted : mg "sorted" = none
  tuple : mg "tuple" = none
section
variable {P : Program} {w : World} {K : PySem.W.Frag} {mg : Str → Option Value} {base : Heap} {cl : Str → Addr}
theorem qb_bad {W : WX} {X : Cx} {body : List Stmt} : QB cl W X body sBad := ⟨fun pins s σ H E I ⟨am, e, S, rs, re, p⟩ => p.elim⟩
noncomputable abbrev sheap : Stmt := topS 4
theorem cheap : FnScope ["rows", "found", "key", "many"] ["rows"] (defScope sheap) := ⟨rfl, rfl, rfl, by decide +kernel, rfl, by decide +kernel, by decide +kernel⟩
noncomputable def bheap_1 : Stm := (sIf (tAndD (eTB (e2 gtD (eVar 3) (eC (.int 0)))) (tAndD (eTB (e2 (eqD true) (eVar 1) (eAno (nLst [])))) (eTB (e2 (eqD false) (e2 ixD (e2 ixD (eVar 1) (e1 negD (eC (.int 1)))) (eC (.int 0))) (eVar 2))))) (sSt (eTup [(eVar 2), (e2 addD (e2 ixD (e2 ixD (eVar 1) (e1 negD (eC (.int 1)))) (eC (.int 1))) (eVar 3))]) (eVar 1) (e1 negD (eC (.int 1)))) (sIf (eTB (e2 gtD (eVar 3) (eC (.int 0)))) (sExpr (eM "list" appD (eVar 1) [(eTup [(eVar 2), (eVar 3)])])) sNext))
noncomputable def bheap : Stm := (sSeq (sSet 1 (eNew (nLst [])))
    (sSeq (sFgt [2, 3] (sFor [2, 3] (.tp [(.nm 2), (.nm 3)]) (iS (eVar 0)) bheap_1))
    (sRet (eCall tupD [(eVar 1)]))))
noncomputable def Fheap : List D → Sto → Res D := runD .frz 4 bheap
theorem kheap (T : Bt K mg) (I : DefIn K mg "heap" sheap ["rows"])  : DefOk P w K mg base cl "heap" 1 ["rows"] Fheap := by
  refine def_ok (k := 0) I cheap fun f cdv A outer s H E hr => ?_
  have nd := cheap.nd
  have tk : L2N.Takes (cxOf (L2N.CX P w) P w K mg base ["rows", "found", "key", "many"] "heap" (defScope sheap) f cdv A outer s H E) (fun c d _ H => E c d H)   := L2N.takes_of rfl rfl rfl rfl
  have hp : PassesOwn (model P w) (cxOf (L2N.CX P w) P w K mg base ["rows", "found", "key", "many"] "heap" (defScope sheap) f cdv A outer s H E).A (cxOf (L2N.CX P w) P w K mg base ["rows", "found", "key", "many"] "heap" (defScope sheap) f cdv A outer s H E).env (cxOf (L2N.CX P w) P w K mg base ["rows", "found", "key", "many"] "heap" (defScope sheap) f cdv A outer s H E).xe := passes_of rfl
  exact (qb_cons (qs_set nd rfl (by first | exact Or.inl rfl | exact Or.inr rfl) (qe_new (qn_lst qa_nil)))
    (qb_cons (qs_fgt [2, 3] (qs_for [2, 3] hp rfl (qi_s (qv 0)) (qg_tp rfl (qgs_cons (qg_nm nd rfl (by first | exact Or.inl rfl | exact Or.inr rfl)) (qgs_cons (qg_nm nd rfl (by first | exact Or.inl rfl | exact Or.inr rfl)) qgs_nil)) rfl)
    (qb_one (qs_if (PW.pt (qw_and (qt_gt (qv 3) qe_int) (qw_and (qt_ne hr (qv 1) (qe_ano (qn_lst qa_nil))) (qw_and1 (qt_eq hr (qe_ix hr (qe_ix hr (qv 1) (qe_neg qe_int)) qe_int) (qv 2)))))) (qb_one (qs_st hr (qe_tup (qa_cons (qv 2) (qa_cons (qe_add (qe_ix hr (qe_ix hr (qv 1) (qe_neg qe_int)) qe_int) (qv 3)) qa_nil))) (qv 1) (qe_neg qe_int))) (qb_one (qs_if (qt_gt (qv 3) qe_int) (qb_one (qs_expr (qe_append (qv 1) (qe_tup (qa_cons (qv 2) (qa_cons (qv 3) qa_nil)))))) qb_nil))))))
    (qb_one (qs_ret (qe_tuple (by rfl) T.tuple (qa_cons (qv 1) qa_nil))))))
noncomputable abbrev sjoined : Stmt := topS 5
theorem cjoined : FnScope ["one", "other"] ["one", "other"] (defScope sjoined) := ⟨rfl, rfl, rfl, by decide +kernel, rfl, by decide +kernel, by decide +kernel⟩
noncomputable def bjoined : Stm := (sRet (eFn Fheap [(e2 addD (eVar 0) (eVar 1))]))
noncomputable def Fjoined : List D → Sto → Res D := runD .frz 2 bjoined
theorem kjoined (T : Bt K mg) (I : DefIn K mg "joined" sjoined ["one", "other"]) (Gheap : DefOk P w K mg base cl "heap" 1 ["rows"] Fheap) : DefOk P w K mg base cl "joined" 2 ["one", "other"] Fjoined := by
  refine def_ok (k := 1) I cjoined fun f cdv A outer s H E hr => ?_
  have nd := cjoined.nd
  have tk : L2N.Takes (cxOf (L2N.CX P w) P w K mg base ["one", "other"] "joined" (defScope sjoined) f cdv A outer s H E) (fun c d _ H => E c d H)   := L2N.takes_of rfl rfl rfl rfl
  have hp : PassesOwn (model P w) (cxOf (L2N.CX P w) P w K mg base ["one", "other"] "joined" (defScope sjoined) f cdv A outer s H E).A (cxOf (L2N.CX P w) P w K mg base ["one", "other"] "joined" (defScope sjoined) f cdv A outer s H E).env (cxOf (L2N.CX P w) P w K mg base ["one", "other"] "joined" (defScope sjoined) f cdv A outer s H E).xe := passes_of rfl
  exact (qb_one (qs_ret (qe_fn (Gheap.mono (by decide)) hr (by rfl) tk (qa_cons (qe_add (qv 0) (qv 1)) qa_nil))))
noncomputable abbrev sparted : Stmt := topS 7
theorem cparted : FnScope ["one", "table", "bins", "found", "key", "many", "number"] ["one", "table"] (defScope sparted) := ⟨rfl, rfl, rfl, by decide +kernel, rfl, by decide +kernel, by decide +kernel⟩
noncomputable def bparted_1 : Stm := (sSeq (sIf (eTB (e2 (inD true) (eVar 4) (eVar 2))) sBad sNext)
    (sExpr (eM "list" appD (eSd (eVar 3) (e2 ixD (eVar 2) (eVar 4))) [(eTup [(eVar 4), (eVar 5)])])))
noncomputable def bparted : Stm := (sSeq (sSet 2 (eAno (nDctP (e2 ixD (eVar 1) (eC (.int 1))))))
    (sSeq (sSet 3 (eNew nDct0))
    (sSeq (sFgt [4, 5] (sFor [4, 5] (.tp [(.nm 4), (.nm 5)]) (iS (eVar 0)) bparted_1))
    (sRet (eAno (nLc [6] (.nm 6) (iS (eAno (nSort (eVar 3)))) tYesD (eFn Fheap [(e2 ixD (eVar 3) (eVar 6))])))))))
noncomputable def Fparted : List D → Sto → Res D := runD .frz 7 bparted
theorem kparted (T : Bt K mg) (I : DefIn K mg "parted" sparted ["one", "table"]) (Gheap : DefOk P w K mg base cl "heap" 1 ["rows"] Fheap) : DefOk P w K mg base cl "parted" 2 ["one", "table"] Fparted := by
  refine def_ok (k := 1) I cparted fun f cdv A outer s H E hr => ?_
  have nd := cparted.nd
  have tk : L2N.Takes (cxOf (L2N.CX P w) P w K mg base ["one", "table", "bins", "found", "key", "many", "number"] "parted" (defScope sparted) f cdv A outer s H E) (fun c d _ H => E c d H)   := L2N.takes_of rfl rfl rfl rfl
  have hp : PassesOwn (model P w) (cxOf (L2N.CX P w) P w K mg base ["one", "table", "bins", "found", "key", "many", "number"] "parted" (defScope sparted) f cdv A outer s H E).A (cxOf (L2N.CX P w) P w K mg base ["one", "table", "bins", "found", "key", "many", "number"] "parted" (defScope sparted) f cdv A outer s H E).env (cxOf (L2N.CX P w) P w K mg base ["one", "table", "bins", "found", "key", "many", "number"] "parted" (defScope sparted) f cdv A outer s H E).xe := passes_of rfl
  exact (qb_cons (qs_set nd rfl (by first | exact Or.inl rfl | exact Or.inr rfl) (qe_ano (qn_dctP rfl (by rfl) T.dict (qe_ix hr (qv 1) qe_int))))
    (qb_cons (qs_set nd rfl (by first | exact Or.inl rfl | exact Or.inr rfl) (qe_new qn_dct0))
    (qb_cons (qs_fgt [4, 5] (qs_for [4, 5] hp rfl (qi_s (qv 0)) (qg_tp rfl (qgs_cons (qg_nm nd rfl (by first | exact Or.inl rfl | exact Or.inr rfl)) (qgs_cons (qg_nm nd rfl (by first | exact Or.inl rfl | exact Or.inr rfl)) qgs_nil)) rfl)
    (qb_cons (qs_if (qt_notIn hr (qv 4) (qv 2)) (qb_one qs_bad) qb_nil)
    (qb_one (qs_expr (qe_append (qe_setd (qv 3) (qe_ix hr (qv 2) (qv 4))) (qe_tup (qa_cons (qv 4) (qa_cons (qv 5) qa_nil)))))))))
    (qb_one (qs_ret (qe_ano (qn_lc (own := [("number", 6)]) rfl nd (qi_s (qe_ano (qn_sort rfl (by rfl) T.sorted (qv 3)))) (blkOk_by (by rfl)) (by decide) (fun _ _ _ _ _ => (qg_nm nd rfl (by first | exact Or.inl rfl | exact Or.inr rfl))) (fun _ _ _ _ _ => qts_nil) (fun _ _ _ _ _ => (qe_fn (Gheap.mono (by decide)) hr (by rfl) takesN (qa_cons (qe_ix hr (qv 3) (qv 6)) qa_nil))))))))))
noncomputable abbrev stogether : Stmt := topS 8
theorem ctogether : FnScope ["heaps", "found", "one"] ["heaps"] (defScope stogether) := ⟨rfl, rfl, rfl, by decide +kernel, rfl, by decide +kernel, by decide +kernel⟩
noncomputable def btogether_1 : Stm := (sSet 1 (eFn Fjoined [(eVar 1), (eVar 2)]))
noncomputable def btogether : Stm := (sSeq (sSet 1 (eTup []))
    (sSeq (sFgt [2] (sFor [2] (.nm 2) (iS (eVar 0)) btogether_1))
    (sRet (eVar 1))))
noncomputable def Ftogether : List D → Sto → Res D := runD .frz 3 btogether
theorem ktogether (T : Bt K mg) (I : DefIn K mg "together" stogether ["heaps"]) (Gjoined : DefOk P w K mg base cl "joined" 2 ["one", "other"] Fjoined) : DefOk P w K mg base cl "together" 3 ["heaps"] Ftogether := by
  refine def_ok (k := 2) I ctogether fun f cdv A outer s H E hr => ?_
  have nd := ctogether.nd
  have tk : L2N.Takes (cxOf (L2N.CX P w) P w K mg base ["heaps", "found", "one"] "together" (defScope stogether) f cdv A outer s H E) (fun c d _ H => E c d H)   := L2N.takes_of rfl rfl rfl rfl
  have hp : PassesOwn (model P w) (cxOf (L2N.CX P w) P w K mg base ["heaps", "found", "one"] "together" (defScope stogether) f cdv A outer s H E).A (cxOf (L2N.CX P w) P w K mg base ["heaps", "found", "one"] "together" (defScope stogether) f cdv A outer s H E).env (cxOf (L2N.CX P w) P w K mg base ["heaps", "found", "one"] "together" (defScope stogether) f cdv A outer s H E).xe := passes_of rfl
  exact (qb_cons (qs_set nd rfl (by first | exact Or.inl rfl | exact Or.inr rfl) (qe_tup qa_nil))
    (qb_cons (qs_fgt [2] (qs_for [2] hp rfl (qi_s (qv 0)) (qg_nm nd rfl (by first | exact Or.inl rfl | exact Or.inr rfl))
    (qb_one (qs_set nd rfl (by first | exact Or.inl rfl | exact Or.inr rfl) (qe_fn (Gjoined.mono (by decide)) hr (by rfl) tk (qa_cons (qv 1) (qa_cons (qv 2) qa_nil)))))))
    (qb_one (qs_ret (qv 1)))))
noncomputable abbrev spassed : Stmt := topS 9
theorem cpassed : FnScope ["one", "table"] ["one", "table"] (defScope spassed) := ⟨rfl, rfl, rfl, by decide +kernel, rfl, by decide +kernel, by decide +kernel⟩
noncomputable def bpassed : Stm := (sRet (eFn Ftogether [(eFn Fparted [(eVar 0), (eVar 1)])]))
noncomputable def Fpassed : List D → Sto → Res D := runD .frz 2 bpassed
theorem kpassed (T : Bt K mg) (I : DefIn K mg "passed" spassed ["one", "table"]) (Gtogether : DefOk P w K mg base cl "together" 3 ["heaps"] Ftogether) (Gparted : DefOk P w K mg base cl "parted" 2 ["one", "table"] Fparted) : DefOk P w K mg base cl "passed" 4 ["one", "table"] Fpassed := by
  refine def_ok (k := 3) I cpassed fun f cdv A outer s H E hr => ?_
  have nd := cpassed.nd
  have tk : L2N.Takes (cxOf (L2N.CX P w) P w K mg base ["one", "table"] "passed" (defScope spassed) f cdv A outer s H E) (fun c d _ H => E c d H)   := L2N.takes_of rfl rfl rfl rfl
  have hp : PassesOwn (model P w) (cxOf (L2N.CX P w) P w K mg base ["one", "table"] "passed" (defScope spassed) f cdv A outer s H E).A (cxOf (L2N.CX P w) P w K mg base ["one", "table"] "passed" (defScope spassed) f cdv A outer s H E).env (cxOf (L2N.CX P w) P w K mg base ["one", "table"] "passed" (defScope spassed) f cdv A outer s H E).xe := passes_of rfl
  exact (qb_one (qs_ret (qe_fn (Gtogether.mono (by decide)) hr (by rfl) tk (qa_cons (qe_fn (Gparted.mono (by decide)) hr (by rfl) tk (qa_cons (qv 0) (qa_cons (qv 1) qa_nil))) qa_nil))))
noncomputable abbrev spassed_all : Stmt := topS 10
theorem cpassed_all : FnScope ["one", "tables", "table"] ["one", "tables"] (defScope spassed_all) := ⟨rfl, rfl, rfl, by decide +kernel, rfl, by decide +kernel, by decide +kernel⟩
noncomputable def bpassed_all_1 : Stm := (sSet 0 (eFn Fpassed [(eVar 0), (eVar 2)]))
noncomputable def bpassed_all : Stm := (sSeq (sFgt [2] (sFor [2] (.nm 2) (iS (eVar 1)) bpassed_all_1))
    (sRet (eVar 0)))
noncomputable def Fpassed_all : List D → Sto → Res D := runD .frz 3 bpassed_all
theorem kpassed_all (T : Bt K mg) (I : DefIn K mg "passed_all" spassed_all ["one", "tables"]) (Gpassed : DefOk P w K mg base cl "passed" 4 ["one", "table"] Fpassed) : DefOk P w K mg base cl "passed_all" 5 ["one", "tables"] Fpassed_all := by
  refine def_ok (k := 4) I cpassed_all fun f cdv A outer s H E hr => ?_
  have nd := cpassed_all.nd
  have tk : L2N.Takes (cxOf (L2N.CX P w) P w K mg base ["one", "tables", "table"] "passed_all" (defScope spassed_all) f cdv A outer s H E) (fun c d _ H => E c d H)   := L2N.takes_of rfl rfl rfl rfl
  have hp : PassesOwn (model P w) (cxOf (L2N.CX P w) P w K mg base ["one", "tables", "table"] "passed_all" (defScope spassed_all) f cdv A outer s H E).A (cxOf (L2N.CX P w) P w K mg base ["one", "tables", "table"] "passed_all" (defScope spassed_all) f cdv A outer s H E).env (cxOf (L2N.CX P w) P w K mg base ["one", "tables", "table"] "passed_all" (defScope spassed_all) f cdv A outer s H E).xe := passes_of rfl
  exact (qb_cons (qs_fgt [2] (qs_for [2] hp rfl (qi_s (qv 1)) (qg_nm nd rfl (by first | exact Or.inl rfl | exact Or.inr rfl))
    (qb_one (qs_set nd rfl (by first | exact Or.inl rfl | exact Or.inr rfl) (qe_fn (Gpassed.mono (by decide)) hr (by rfl) tk (qa_cons (qv 0) (qa_cons (qv 2) qa_nil)))))))
    (qb_one (qs_ret (qv 0))))
noncomputable abbrev scascaded : Stmt := topS 11
theorem ccascaded : FnScope ["one", "tables", "part"] ["one", "tables"] (defScope scascaded) := ⟨rfl, rfl, rfl, by decide +kernel, rfl, by decide +kernel, by decide +kernel⟩
noncomputable def bcascaded (R : List D → Sto → Res D) : Stm := (sSeq (sIf (eTB (e2 (eqD false) (eVar 1) (eTup []))) (sRet (eVar 0)) sNext)
    (sRet (eFn Ftogether [(eAno (nLc [2] (.nm 2) (iS (eFn Fparted [(eVar 0), (e2 ixD (eVar 1) (eC (.int 0)))])) tYesD (eFn R [(eVar 2), (eSl (eVar 1) (pE (eC (.int 1))) pN)])))])))
noncomputable def Rcascaded : Nat → List D → Sto → Res D
  | 0 => runD .frz 3 sBad
  | n + 1 => runD .frz 3 (bcascaded (Rcascaded n))
noncomputable def Fcascaded : List D → Sto → Res D := Rcascaded 6
theorem jcascaded (T : Bt K mg) (I : DefIn K mg "cascaded" scascaded ["one", "tables"]) (Gtogether : DefOk P w K mg base cl "together" 3 ["heaps"] Ftogether) (Gparted : DefOk P w K mg base cl "parted" 2 ["one", "table"] Fparted) {kk : Nat} {R : List D → Sto → Res D} (hk : 3 ≤ kk) (Gcascaded : DefOk P w K mg base cl "cascaded" kk ["one", "tables"] R) : DefOk P w K mg base cl "cascaded" (kk + 1) ["one", "tables"] (runD .frz 3 (bcascaded R)) := by
  refine def_ok (k := kk) I ccascaded fun f cdv A outer s H E hr => ?_
  have nd := ccascaded.nd
  have tk : L2N.Takes (cxOf (L2N.CX P w) P w K mg base ["one", "tables", "part"] "cascaded" (defScope scascaded) f cdv A outer s H E) (fun c d _ H => E c d H)   := L2N.takes_of rfl rfl rfl rfl
  have hp : PassesOwn (model P w) (cxOf (L2N.CX P w) P w K mg base ["one", "tables", "part"] "cascaded" (defScope scascaded) f cdv A outer s H E).A (cxOf (L2N.CX P w) P w K mg base ["one", "tables", "part"] "cascaded" (defScope scascaded) f cdv A outer s H E).env (cxOf (L2N.CX P w) P w K mg base ["one", "tables", "part"] "cascaded" (defScope scascaded) f cdv A outer s H E).xe := passes_of rfl
  exact (qb_cons (qs_if (qt_eq hr (qv 1) (qe_tup qa_nil)) (qb_one (qs_ret (qv 0))) qb_nil)
    (qb_one (qs_ret (qe_fn (Gtogether.mono (by omega)) hr (by rfl) tk (qa_cons (qe_ano (qn_lc (own := [("part", 2)]) rfl nd (qi_s (qe_fn (Gparted.mono (by omega)) hr (by rfl) tk (qa_cons (qv 0) (qa_cons (qe_ix hr (qv 1) qe_int) qa_nil)))) (blkOk_by (by rfl)) (by decide) (fun _ _ _ _ _ => (qg_nm nd rfl (by first | exact Or.inl rfl | exact Or.inr rfl))) (fun _ _ _ _ _ => qts_nil) (fun _ _ _ _ _ => (qe_fn (Gcascaded.mono (by omega)) hr (by rfl) takesN (qa_cons (qv 2) (qa_cons (qe_sl (qv 1) (qp_e qe_int) qp_n) qa_nil)))))) qa_nil)))))
theorem kcascaded (T : Bt K mg) (I : DefIn K mg "cascaded" scascaded ["one", "tables"]) (Gtogether : DefOk P w K mg base cl "together" 3 ["heaps"] Ftogether) (Gparted : DefOk P w K mg base cl "parted" 2 ["one", "table"] Fparted) : DefOk P w K mg base cl "cascaded" 10 ["one", "tables"] Fcascaded :=
  (jcascaded T I Gtogether Gparted (kk := 9) (R := Rcascaded 5) (by decide) (jcascaded T I Gtogether Gparted (kk := 8) (R := Rcascaded 4) (by decide) (jcascaded T I Gtogether Gparted (kk := 7) (R := Rcascaded 3) (by decide) (jcascaded T I Gtogether Gparted (kk := 6) (R := Rcascaded 2) (by decide) (jcascaded T I Gtogether Gparted (kk := 5) (R := Rcascaded 1) (by decide) (jcascaded T I Gtogether Gparted (kk := 4) (R := Rcascaded 0) (by decide) (def_ok (k := 3) I ccascaded fun f cdv A outer s H E hr => qb_bad)))))))
noncomputable abbrev s_law_cell_at : Stmt := topS 13
theorem c_law_cell_at : FnScope ["_law_script", "_law_k"] ["_law_script", "_law_k"] (defScope s_law_cell_at) := ⟨rfl, rfl, rfl, by decide +kernel, rfl, by decide +kernel, by decide +kernel⟩
noncomputable def b_law_cell_at : Stm := (sSeq (sIf (eTB (e2 ltD (eVar 1) (eCall lenD [(eVar 0)]))) (sRet (e2 ixD (eVar 0) (eVar 1))) sNext)
    (sRet (eC (.int 0))))
noncomputable def F_law_cell_at : List D → Sto → Res D := runD .frz 2 b_law_cell_at
theorem k_law_cell_at (T : Bt K mg) (I : DefIn K mg "_law_cell_at" s_law_cell_at ["_law_script", "_law_k"])  : DefOk P w K mg base cl "_law_cell_at" 1 ["_law_script", "_law_k"] F_law_cell_at := by
  refine def_ok (k := 0) I c_law_cell_at fun f cdv A outer s H E hr => ?_
  have nd := c_law_cell_at.nd
  have tk : L2N.Takes (cxOf (L2N.CX P w) P w K mg base ["_law_script", "_law_k"] "_law_cell_at" (defScope s_law_cell_at) f cdv A outer s H E) (fun c d _ H => E c d H)   := L2N.takes_of rfl rfl rfl rfl
  have hp : PassesOwn (model P w) (cxOf (L2N.CX P w) P w K mg base ["_law_script", "_law_k"] "_law_cell_at" (defScope s_law_cell_at) f cdv A outer s H E).A (cxOf (L2N.CX P w) P w K mg base ["_law_script", "_law_k"] "_law_cell_at" (defScope s_law_cell_at) f cdv A outer s H E).env (cxOf (L2N.CX P w) P w K mg base ["_law_script", "_law_k"] "_law_cell_at" (defScope s_law_cell_at) f cdv A outer s H E).xe := passes_of rfl
  exact (qb_cons (qs_if (qt_lt (qv 1) (qe_len (by rfl) T.len (qa_cons (qv 0) qa_nil))) (qb_one (qs_ret (qe_ix hr (qv 0) (qv 1)))) qb_nil)
    (qb_one (qs_ret qe_int)))
noncomputable abbrev s_law_big : Stmt := topS 14
theorem c_law_big : FnScope ["_law_script", "_law_at", "_law_cell", "_law_primes", "_law_found", "_law_k", "_law_one"] ["_law_script", "_law_at"] (defScope s_law_big) := ⟨rfl, rfl, rfl, by decide +kernel, rfl, by decide +kernel, by decide +kernel⟩
noncomputable def b_law_big_1 : Stm := (sSeq (sSet 6 (e2 addD (e2 addD (e2 addD (e2 modD (eFn F_law_cell_at [(eVar 0), (e2 addD (eVar 1) (e2 modD (eVar 5) (eC (.int 7))))]) (e2 powD (eC (.int 10)) (eC (.int 18)))) (e2 mulD (eC (.int 11)) (eVar 5))) (e2 mulD (eC (.int 13)) (eVar 1))) (eC (.int 3))))
    (sSet 4 (e2 addD (e2 mulD (eVar 4) (eC (.int 8191))) (e2 modD (e2 mulD (e2 modD (e2 powD (e2 addD (e2 addD (e2 mulD (eVar 6) (eVar 6)) (e2 mulD (eC (.int 17)) (eVar 5))) (eC (.int 1))) (eC (.int 3))) (e2 ixD (eVar 3) (e2 modD (eVar 5) (eC (.int 7))))) (e2 addD (eVar 5) (eC (.int 5)))) (eC (.int 8191))))))
noncomputable def b_law_big : Stm := (sSeq (sSet 2 (eFn F_law_cell_at [(eVar 0), (eVar 1)]))
    (sSeq (sIf (eTB (e2 geD (eVar 2) (e2 powD (eC (.int 10)) (eC (.int 18))))) (sRet (eVar 2)) sNext)
    (sSeq (sSet 3 (eTup [(eC (.int 104729)), (eC (.int 104723)), (eC (.int 104717)), (eC (.int 104711)), (eC (.int 104707)), (eC (.int 104701)), (eC (.int 104693))]))
    (sSeq (sSet 4 (eC (.int 0)))
    (sSeq (sFgt [5, 6] (sFor [5, 6] (.nm 5) (iR1 (eC (.int 70))) b_law_big_1))
    (sRet (eVar 4)))))))
noncomputable def F_law_big : List D → Sto → Res D := runD .frz 7 b_law_big
theorem k_law_big (T : Bt K mg) (I : DefIn K mg "_law_big" s_law_big ["_law_script", "_law_at"]) (G_law_cell_at : DefOk P w K mg base cl "_law_cell_at" 1 ["_law_script", "_law_k"] F_law_cell_at) : DefOk P w K mg base cl "_law_big" 2 ["_law_script", "_law_at"] F_law_big := by
  refine def_ok (k := 1) I c_law_big fun f cdv A outer s H E hr => ?_
  have nd := c_law_big.nd
  have tk : L2N.Takes (cxOf (L2N.CX P w) P w K mg base ["_law_script", "_law_at", "_law_cell", "_law_primes", "_law_found", "_law_k", "_law_one"] "_law_big" (defScope s_law_big) f cdv A outer s H E) (fun c d _ H => E c d H)   := L2N.takes_of rfl rfl rfl rfl
  have hp : PassesOwn (model P w) (cxOf (L2N.CX P w) P w K mg base ["_law_script", "_law_at", "_law_cell", "_law_primes", "_law_found", "_law_k", "_law_one"] "_law_big" (defScope s_law_big) f cdv A outer s H E).A (cxOf (L2N.CX P w) P w K mg base ["_law_script", "_law_at", "_law_cell", "_law_primes", "_law_found", "_law_k", "_law_one"] "_law_big" (defScope s_law_big) f cdv A outer s H E).env (cxOf (L2N.CX P w) P w K mg base ["_law_script", "_law_at", "_law_cell", "_law_primes", "_law_found", "_law_k", "_law_one"] "_law_big" (defScope s_law_big) f cdv A outer s H E).xe := passes_of rfl
  exact (qb_cons (qs_set nd rfl (by first | exact Or.inl rfl | exact Or.inr rfl) (qe_fn (G_law_cell_at.mono (by decide)) hr (by rfl) tk (qa_cons (qv 0) (qa_cons (qv 1) qa_nil))))
    (qb_cons (qs_if (qt_ge (qv 2) (qe_pow qe_int qe_int)) (qb_one (qs_ret (qv 2))) qb_nil)
    (qb_cons (qs_set nd rfl (by first | exact Or.inl rfl | exact Or.inr rfl) (qe_tup (qa_cons qe_int (qa_cons qe_int (qa_cons qe_int (qa_cons qe_int (qa_cons qe_int (qa_cons qe_int (qa_cons qe_int qa_nil)))))))))
    (qb_cons (qs_set nd rfl (by first | exact Or.inl rfl | exact Or.inr rfl) qe_int)
    (qb_cons (qs_fgt [5, 6] (qs_for [5, 6] hp rfl (qi_r1 (by rfl) T.range qe_int) (qg_nm nd rfl (by first | exact Or.inl rfl | exact Or.inr rfl))
    (qb_cons (qs_set nd rfl (by first | exact Or.inl rfl | exact Or.inr rfl) (qe_add (qe_add (qe_add (qe_mod (qe_fn (G_law_cell_at.mono (by decide)) hr (by rfl) tk (qa_cons (qv 0) (qa_cons (qe_add (qv 1) (qe_mod (qv 5) qe_int)) qa_nil))) (qe_pow qe_int qe_int)) (qe_mul qe_int (qv 5))) (qe_mul qe_int (qv 1))) qe_int))
    (qb_one (qs_set nd rfl (by first | exact Or.inl rfl | exact Or.inr rfl) (qe_add (qe_mul (qv 4) qe_int) (qe_mod (qe_mul (qe_mod (qe_pow (qe_add (qe_add (qe_mul (qv 6) (qv 6)) (qe_mul qe_int (qv 5))) qe_int) qe_int) (qe_ix hr (qv 3) (qe_mod (qv 5) qe_int))) (qe_add (qv 5) qe_int)) qe_int)))))))
    (qb_one (qs_ret (qv 4))))))))
noncomputable abbrev s_law_digit : Stmt := topS 15
theorem c_law_digit : FnScope ["_law_rest", "_law_many", "_law_found"] ["_law_rest", "_law_many"] (defScope s_law_digit) := ⟨rfl, rfl, rfl, by decide +kernel, rfl, by decide +kernel, by decide +kernel⟩
noncomputable def b_law_digit : Stm := (sSeq (sSet 2 (e2 modD (e2 ixD (eVar 0) (eC (.int 0))) (eVar 1)))
    (sSeq (sSt (e2 fdivD (e2 ixD (eVar 0) (eC (.int 0))) (eVar 1)) (eVar 0) (eC (.int 0)))
    (sRet (eVar 2))))
noncomputable def F_law_digit : List D → Sto → Res D := runD .frz 3 b_law_digit
theorem k_law_digit (T : Bt K mg) (I : DefIn K mg "_law_digit" s_law_digit ["_law_rest", "_law_many"])  : DefOk P w K mg base cl "_law_digit" 1 ["_law_rest", "_law_many"] F_law_digit := by
  refine def_ok (k := 0) I c_law_digit fun f cdv A outer s H E hr => ?_
  have nd := c_law_digit.nd
  have tk : L2N.Takes (cxOf (L2N.CX P w) P w K mg base ["_law_rest", "_law_many", "_law_found"] "_law_digit" (defScope s_law_digit) f cdv A outer s H E) (fun c d _ H => E c d H)   := L2N.takes_of rfl rfl rfl rfl
  have hp : PassesOwn (model P w) (cxOf (L2N.CX P w) P w K mg base ["_law_rest", "_law_many", "_law_found"] "_law_digit" (defScope s_law_digit) f cdv A outer s H E).A (cxOf (L2N.CX P w) P w K mg base ["_law_rest", "_law_many", "_law_found"] "_law_digit" (defScope s_law_digit) f cdv A outer s H E).env (cxOf (L2N.CX P w) P w K mg base ["_law_rest", "_law_many", "_law_found"] "_law_digit" (defScope s_law_digit) f cdv A outer s H E).xe := passes_of rfl
  exact (qb_cons (qs_set nd rfl (by first | exact Or.inl rfl | exact Or.inr rfl) (qe_mod (qe_ix hr (qv 0) qe_int) (qv 1)))
    (qb_cons (qs_st hr (qe_fdiv (qe_ix hr (qv 0) qe_int) (qv 1)) (qv 0) qe_int)
    (qb_one (qs_ret (qv 2)))))
noncomputable abbrev s_law_whole : Stmt := topS 16
theorem c_law_whole : FnScope ["_law_rest"] ["_law_rest"] (defScope s_law_whole) := ⟨rfl, rfl, rfl, by decide +kernel, rfl, by decide +kernel, by decide +kernel⟩
noncomputable def b_law_whole : Stm := (sRet (eFn F_law_digit [(eVar 0), (e2 ixD (eTup [(eC (.int 2)), (eC (.int 5)), (eC (.int 12)), (e2 powD (eC (.int 10)) (eC (.int 57)))]) (eFn F_law_digit [(eVar 0), (eC (.int 4))]))]))
noncomputable def F_law_whole : List D → Sto → Res D := runD .frz 1 b_law_whole
theorem k_law_whole (T : Bt K mg) (I : DefIn K mg "_law_whole" s_law_whole ["_law_rest"]) (G_law_digit : DefOk P w K mg base cl "_law_digit" 1 ["_law_rest", "_law_many"] F_law_digit) : DefOk P w K mg base cl "_law_whole" 2 ["_law_rest"] F_law_whole := by
  refine def_ok (k := 1) I c_law_whole fun f cdv A outer s H E hr => ?_
  have nd := c_law_whole.nd
  have tk : L2N.Takes (cxOf (L2N.CX P w) P w K mg base ["_law_rest"] "_law_whole" (defScope s_law_whole) f cdv A outer s H E) (fun c d _ H => E c d H)   := L2N.takes_of rfl rfl rfl rfl
  have hp : PassesOwn (model P w) (cxOf (L2N.CX P w) P w K mg base ["_law_rest"] "_law_whole" (defScope s_law_whole) f cdv A outer s H E).A (cxOf (L2N.CX P w) P w K mg base ["_law_rest"] "_law_whole" (defScope s_law_whole) f cdv A outer s H E).env (cxOf (L2N.CX P w) P w K mg base ["_law_rest"] "_law_whole" (defScope s_law_whole) f cdv A outer s H E).xe := passes_of rfl
  exact (qb_one (qs_ret (qe_fn (G_law_digit.mono (by decide)) hr (by rfl) tk (qa_cons (qv 0) (qa_cons (qe_ix hr (qe_tup (qa_cons qe_int (qa_cons qe_int (qa_cons qe_int (qa_cons (qe_pow qe_int qe_int) qa_nil))))) (qe_fn (G_law_digit.mono (by decide)) hr (by rfl) tk (qa_cons (qv 0) (qa_cons qe_int qa_nil)))) qa_nil)))))
noncomputable abbrev s_law_keys : Stmt := topS 17
theorem c_law_keys : FnScope ["_law_rest", "_law_many", "_law_found", "_law_key", "_law_k"] ["_law_rest", "_law_many"] (defScope s_law_keys) := ⟨rfl, rfl, rfl, by decide +kernel, rfl, by decide +kernel, by decide +kernel⟩
noncomputable def b_law_keys_1 : Stm := (sSeq (sSet 3 (e2 addD (e2 addD (eVar 3) (eCall int1D [(e2 gtD (eVar 4) (eC (.int 0)))])) (eFn F_law_digit [(eVar 0), (e2 ixD (eTup [(eC (.int 1)), (eC (.int 2)), (eC (.int 9))]) (eFn F_law_digit [(eVar 0), (eC (.int 3))]))])))
    (sExpr (eM "list" appD (eVar 2) [(eVar 3)])))
noncomputable def b_law_keys : Stm := (sSeq (sSet 2 (eNew (nLst [])))
    (sSeq (sSet 3 (eC (.int 0)))
    (sSeq (sIf (eTB (e2 (eqD false) (eFn F_law_digit [(eVar 0), (eC (.int 4))]) (eC (.int 1)))) (sSet 3 (eFn F_law_digit [(eVar 0), (e2 powD (eC (.int 10)) (eC (.int 59)))])) sNext)
    (sSeq (sFgt [3, 4] (sFor [4] (.nm 4) (iR1 (eVar 1)) b_law_keys_1))
    (sRet (eVar 2))))))
noncomputable def F_law_keys : List D → Sto → Res D := runD .frz 5 b_law_keys
theorem k_law_keys (T : Bt K mg) (I : DefIn K mg "_law_keys" s_law_keys ["_law_rest", "_law_many"]) (G_law_digit : DefOk P w K mg base cl "_law_digit" 1 ["_law_rest", "_law_many"] F_law_digit) : DefOk P w K mg base cl "_law_keys" 2 ["_law_rest", "_law_many"] F_law_keys := by
  refine def_ok (k := 1) I c_law_keys fun f cdv A outer s H E hr => ?_
  have nd := c_law_keys.nd
  have tk : L2N.Takes (cxOf (L2N.CX P w) P w K mg base ["_law_rest", "_law_many", "_law_found", "_law_key", "_law_k"] "_law_keys" (defScope s_law_keys) f cdv A outer s H E) (fun c d _ H => E c d H)   := L2N.takes_of rfl rfl rfl rfl
  have hp : PassesOwn (model P w) (cxOf (L2N.CX P w) P w K mg base ["_law_rest", "_law_many", "_law_found", "_law_key", "_law_k"] "_law_keys" (defScope s_law_keys) f cdv A outer s H E).A (cxOf (L2N.CX P w) P w K mg base ["_law_rest", "_law_many", "_law_found", "_law_key", "_law_k"] "_law_keys" (defScope s_law_keys) f cdv A outer s H E).env (cxOf (L2N.CX P w) P w K mg base ["_law_rest", "_law_many", "_law_found", "_law_key", "_law_k"] "_law_keys" (defScope s_law_keys) f cdv A outer s H E).xe := passes_of rfl
  exact (qb_cons (qs_set nd rfl (by first | exact Or.inl rfl | exact Or.inr rfl) (qe_new (qn_lst qa_nil)))
    (qb_cons (qs_set nd rfl (by first | exact Or.inl rfl | exact Or.inr rfl) qe_int)
    (qb_cons (qs_if (qt_eq hr (qe_fn (G_law_digit.mono (by decide)) hr (by rfl) tk (qa_cons (qv 0) (qa_cons qe_int qa_nil))) qe_int) (qb_one (qs_set nd rfl (by first | exact Or.inl rfl | exact Or.inr rfl) (qe_fn (G_law_digit.mono (by decide)) hr (by rfl) tk (qa_cons (qv 0) (qa_cons (qe_pow qe_int qe_int) qa_nil))))) qb_nil)
    (qb_cons (qs_fgt [3, 4] (qs_for [4] hp rfl (qi_r1 (by rfl) T.range (qv 1)) (qg_nm nd rfl (by first | exact Or.inl rfl | exact Or.inr rfl))
    (qb_cons (qs_set nd rfl (by first | exact Or.inl rfl | exact Or.inr rfl) (qe_add (qe_add (qv 3) (qe_intOf (by rfl) T.int (qa_cons (qe_gt (qv 4) qe_int) qa_nil))) (qe_fn (G_law_digit.mono (by decide)) hr (by rfl) tk (qa_cons (qv 0) (qa_cons (qe_ix hr (qe_tup (qa_cons qe_int (qa_cons qe_int (qa_cons qe_int qa_nil)))) (qe_fn (G_law_digit.mono (by decide)) hr (by rfl) tk (qa_cons (qv 0) (qa_cons qe_int qa_nil)))) qa_nil)))))
    (qb_one (qs_expr (qe_append (qv 2) (qv 3)))))))
    (qb_one (qs_ret (qv 2)))))))
noncomputable abbrev s_law_rows : Stmt := topS 18
theorem c_law_rows : FnScope ["_law_rest", "_law_keys_here", "_law_many", "_law_far", "_law_found", "_law_k", "_law_often"] ["_law_rest", "_law_keys_here", "_law_many", "_law_far"] (defScope s_law_rows) := ⟨rfl, rfl, rfl, by decide +kernel, rfl, by decide +kernel, by decide +kernel⟩
noncomputable def b_law_rows_1 : Stm := (sSeq (sSet 6 (eFn F_law_digit [(eVar 0), (eC (.int 4))]))
    (sSeq (sIf (eTr (eVar 3)) (sSet 6 (eFn F_law_whole [(eVar 0)])) sNext)
    (sExpr (eM "list" appD (eVar 4) [(eTup [(e2 ixD (eVar 1) (eFn F_law_digit [(eVar 0), (eCall lenD [(eVar 1)])])), (eVar 6)])]))))
noncomputable def b_law_rows : Stm := (sSeq (sSet 4 (eNew (nLst [])))
    (sSeq (sFgt [5, 6] (sFor [5, 6] (.nm 5) (iR1 (eVar 2)) b_law_rows_1))
    (sRet (eCall tupD [(eVar 4)]))))
noncomputable def F_law_rows : List D → Sto → Res D := runD .frz 7 b_law_rows
theorem k_law_rows (T : Bt K mg) (I : DefIn K mg "_law_rows" s_law_rows ["_law_rest", "_law_keys_here", "_law_many", "_law_far"]) (G_law_digit : DefOk P w K mg base cl "_law_digit" 1 ["_law_rest", "_law_many"] F_law_digit) (G_law_whole : DefOk P w K mg base cl "_law_whole" 2 ["_law_rest"] F_law_whole) : DefOk P w K mg base cl "_law_rows" 3 ["_law_rest", "_law_keys_here", "_law_many", "_law_far"] F_law_rows := by
  refine def_ok (k := 2) I c_law_rows fun f cdv A outer s H E hr => ?_
  have nd := c_law_rows.nd
  have tk : L2N.Takes (cxOf (L2N.CX P w) P w K mg base ["_law_rest", "_law_keys_here", "_law_many", "_law_far", "_law_found", "_law_k", "_law_often"] "_law_rows" (defScope s_law_rows) f cdv A outer s H E) (fun c d _ H => E c d H)   := L2N.takes_of rfl rfl rfl rfl
  have hp : PassesOwn (model P w) (cxOf (L2N.CX P w) P w K mg base ["_law_rest", "_law_keys_here", "_law_many", "_law_far", "_law_found", "_law_k", "_law_often"] "_law_rows" (defScope s_law_rows) f cdv A outer s H E).A (cxOf (L2N.CX P w) P w K mg base ["_law_rest", "_law_keys_here", "_law_many", "_law_far", "_law_found", "_law_k", "_law_often"] "_law_rows" (defScope s_law_rows) f cdv A outer s H E).env (cxOf (L2N.CX P w) P w K mg base ["_law_rest", "_law_keys_here", "_law_many", "_law_far", "_law_found", "_law_k", "_law_often"] "_law_rows" (defScope s_law_rows) f cdv A outer s H E).xe := passes_of rfl
  exact (qb_cons (qs_set nd rfl (by first | exact Or.inl rfl | exact Or.inr rfl) (qe_new (qn_lst qa_nil)))
    (qb_cons (qs_fgt [5, 6] (qs_for [5, 6] hp rfl (qi_r1 (by rfl) T.range (qv 2)) (qg_nm nd rfl (by first | exact Or.inl rfl | exact Or.inr rfl))
    (qb_cons (qs_set nd rfl (by first | exact Or.inl rfl | exact Or.inr rfl) (qe_fn (G_law_digit.mono (by decide)) hr (by rfl) tk (qa_cons (qv 0) (qa_cons qe_int qa_nil))))
    (qb_cons (qs_if (qt_val (qv 3)) (qb_one (qs_set nd rfl (by first | exact Or.inl rfl | exact Or.inr rfl) (qe_fn (G_law_whole.mono (by decide)) hr (by rfl) tk (qa_cons (qv 0) qa_nil)))) qb_nil)
    (qb_one (qs_expr (qe_append (qv 4) (qe_tup (qa_cons (qe_ix hr (qv 1) (qe_fn (G_law_digit.mono (by decide)) hr (by rfl) tk (qa_cons (qv 0) (qa_cons (qe_len (by rfl) T.len (qa_cons (qv 1) qa_nil)) qa_nil)))) (qa_cons (qv 6) qa_nil))))))))))
    (qb_one (qs_ret (qe_tuple (by rfl) T.tuple (qa_cons (qv 4) qa_nil))))))
noncomputable abbrev s_law_heap : Stmt := topS 19
theorem c_law_heap : FnScope ["_law_rows_here", "_law_found", "_law_key", "_law_many"] ["_law_rows_here"] (defScope s_law_heap) := ⟨rfl, rfl, rfl, by decide +kernel, rfl, by decide +kernel, by decide +kernel⟩
noncomputable def b_law_heap_1 : Stm := (sIf (tAndD (eTB (e2 gtD (eVar 3) (eC (.int 0)))) (tAndD (eTB (e2 (eqD true) (eVar 1) (eAno (nLst [])))) (eTB (e2 (eqD false) (e2 ixD (e2 ixD (eVar 1) (e1 negD (eC (.int 1)))) (eC (.int 0))) (eVar 2))))) (sSt (eTup [(eVar 2), (e2 addD (e2 ixD (e2 ixD (eVar 1) (e1 negD (eC (.int 1)))) (eC (.int 1))) (eVar 3))]) (eVar 1) (e1 negD (eC (.int 1)))) (sIf (eTB (e2 gtD (eVar 3) (eC (.int 0)))) (sExpr (eM "list" appD (eVar 1) [(eTup [(eVar 2), (eVar 3)])])) sNext))
noncomputable def b_law_heap : Stm := (sSeq (sSet 1 (eNew (nLst [])))
    (sSeq (sFgt [2, 3] (sFor [2, 3] (.tp [(.nm 2), (.nm 3)]) (iS (eVar 0)) b_law_heap_1))
    (sRet (eCall tupD [(eVar 1)]))))
noncomputable def F_law_heap : List D → Sto → Res D := runD .frz 4 b_law_heap
theorem k_law_heap (T : Bt K mg) (I : DefIn K mg "_law_heap" s_law_heap ["_law_rows_here"])  : DefOk P w K mg base cl "_law_heap" 1 ["_law_rows_here"] F_law_heap := by
  refine def_ok (k := 0) I c_law_heap fun f cdv A outer s H E hr => ?_
  have nd := c_law_heap.nd
  have tk : L2N.Takes (cxOf (L2N.CX P w) P w K mg base ["_law_rows_here", "_law_found", "_law_key", "_law_many"] "_law_heap" (defScope s_law_heap) f cdv A outer s H E) (fun c d _ H => E c d H)   := L2N.takes_of rfl rfl rfl rfl
  have hp : PassesOwn (model P w) (cxOf (L2N.CX P w) P w K mg base ["_law_rows_here", "_law_found", "_law_key", "_law_many"] "_law_heap" (defScope s_law_heap) f cdv A outer s H E).A (cxOf (L2N.CX P w) P w K mg base ["_law_rows_here", "_law_found", "_law_key", "_law_many"] "_law_heap" (defScope s_law_heap) f cdv A outer s H E).env (cxOf (L2N.CX P w) P w K mg base ["_law_rows_here", "_law_found", "_law_key", "_law_many"] "_law_heap" (defScope s_law_heap) f cdv A outer s H E).xe := passes_of rfl
  exact (qb_cons (qs_set nd rfl (by first | exact Or.inl rfl | exact Or.inr rfl) (qe_new (qn_lst qa_nil)))
    (qb_cons (qs_fgt [2, 3] (qs_for [2, 3] hp rfl (qi_s (qv 0)) (qg_tp rfl (qgs_cons (qg_nm nd rfl (by first | exact Or.inl rfl | exact Or.inr rfl)) (qgs_cons (qg_nm nd rfl (by first | exact Or.inl rfl | exact Or.inr rfl)) qgs_nil)) rfl)
    (qb_one (qs_if (PW.pt (qw_and (qt_gt (qv 3) qe_int) (qw_and (qt_ne hr (qv 1) (qe_ano (qn_lst qa_nil))) (qw_and1 (qt_eq hr (qe_ix hr (qe_ix hr (qv 1) (qe_neg qe_int)) qe_int) (qv 2)))))) (qb_one (qs_st hr (qe_tup (qa_cons (qv 2) (qa_cons (qe_add (qe_ix hr (qe_ix hr (qv 1) (qe_neg qe_int)) qe_int) (qv 3)) qa_nil))) (qv 1) (qe_neg qe_int))) (qb_one (qs_if (qt_gt (qv 3) qe_int) (qb_one (qs_expr (qe_append (qv 1) (qe_tup (qa_cons (qv 2) (qa_cons (qv 3) qa_nil)))))) qb_nil))))))
    (qb_one (qs_ret (qe_tuple (by rfl) T.tuple (qa_cons (qv 1) qa_nil))))))
noncomputable abbrev s_law_table : Stmt := topS 20
theorem c_law_table : FnScope ["_law_rest", "_law_keys_here", "_law_far", "_law_bins", "_law_more", "_law_key"] ["_law_rest", "_law_keys_here", "_law_far"] (defScope s_law_table) := ⟨rfl, rfl, rfl, by decide +kernel, rfl, by decide +kernel, by decide +kernel⟩
noncomputable def b_law_table : Stm := (sSeq (sSet 3 (e2 addD (eC (.int 1)) (eFn F_law_digit [(eVar 0), (e2 ixD (eTup [(eC (.int 1)), (eC (.int 3)), (eC (.int 6))]) (eFn F_law_digit [(eVar 0), (eC (.int 3))]))])))
    (sSeq (sIf (tAndD (eTr (eVar 2)) (eTB (e2 (eqD false) (eFn F_law_digit [(eVar 0), (eC (.int 3))]) (eC (.int 1))))) (sSet 3 (e2 addD (eC (.int 1)) (eFn F_law_digit [(eVar 0), (e2 powD (eC (.int 10)) (eC (.int 59)))]))) sNext)
    (sSeq (sSet 4 (eAno (nLc [5] (.nm 5) (iS (eVar 1)) (tAndD (eTB (e2 (inD true) (e2 addD (eVar 5) (eC (.int 1))) (eVar 1))) (eTB (e2 (eqD false) (eFn F_law_digit [(eVar 0), (eC (.int 4))]) (eC (.int 1))))) (e2 addD (eVar 5) (eC (.int 1))))))
    (sRet (eTup [(eVar 3), (eCall tupD [(eAno (nLc [5] (.nm 5) (iS (eAno (nSort (e2 addD (eVar 1) (eVar 4))))) tYesD (eTup [(eVar 5), (eFn F_law_digit [(eVar 0), (eVar 3)])])))])])))))
noncomputable def F_law_table : List D → Sto → Res D := runD .frz 6 b_law_table
theorem k_law_table (T : Bt K mg) (I : DefIn K mg "_law_table" s_law_table ["_law_rest", "_law_keys_here", "_law_far"]) (G_law_digit : DefOk P w K mg base cl "_law_digit" 1 ["_law_rest", "_law_many"] F_law_digit) : DefOk P w K mg base cl "_law_table" 2 ["_law_rest", "_law_keys_here", "_law_far"] F_law_table := by
  refine def_ok (k := 1) I c_law_table fun f cdv A outer s H E hr => ?_
  have nd := c_law_table.nd
  have tk : L2N.Takes (cxOf (L2N.CX P w) P w K mg base ["_law_rest", "_law_keys_here", "_law_far", "_law_bins", "_law_more", "_law_key"] "_law_table" (defScope s_law_table) f cdv A outer s H E) (fun c d _ H => E c d H)   := L2N.takes_of rfl rfl rfl rfl
  have hp : PassesOwn (model P w) (cxOf (L2N.CX P w) P w K mg base ["_law_rest", "_law_keys_here", "_law_far", "_law_bins", "_law_more", "_law_key"] "_law_table" (defScope s_law_table) f cdv A outer s H E).A (cxOf (L2N.CX P w) P w K mg base ["_law_rest", "_law_keys_here", "_law_far", "_law_bins", "_law_more", "_law_key"] "_law_table" (defScope s_law_table) f cdv A outer s H E).env (cxOf (L2N.CX P w) P w K mg base ["_law_rest", "_law_keys_here", "_law_far", "_law_bins", "_law_more", "_law_key"] "_law_table" (defScope s_law_table) f cdv A outer s H E).xe := passes_of rfl
  exact (qb_cons (qs_set nd rfl (by first | exact Or.inl rfl | exact Or.inr rfl) (qe_add qe_int (qe_fn (G_law_digit.mono (by decide)) hr (by rfl) tk (qa_cons (qv 0) (qa_cons (qe_ix hr (qe_tup (qa_cons qe_int (qa_cons qe_int (qa_cons qe_int qa_nil)))) (qe_fn (G_law_digit.mono (by decide)) hr (by rfl) tk (qa_cons (qv 0) (qa_cons qe_int qa_nil)))) qa_nil)))))
    (qb_cons (qs_if (PW.pt (qw_and (qt_val (qv 2)) (qw_and1 (qt_eq hr (qe_fn (G_law_digit.mono (by decide)) hr (by rfl) tk (qa_cons (qv 0) (qa_cons qe_int qa_nil))) qe_int)))) (qb_one (qs_set nd rfl (by first | exact Or.inl rfl | exact Or.inr rfl) (qe_add qe_int (qe_fn (G_law_digit.mono (by decide)) hr (by rfl) tk (qa_cons (qv 0) (qa_cons (qe_pow qe_int qe_int) qa_nil)))))) qb_nil)
    (qb_cons (qs_setLc (own := [("_law_key", 5)]) rfl nd rfl rfl (sw_true rfl rfl rfl (by decide +kernel)) (qi_s (qv 1)) (blkOk_by (by rfl)) (by decide) (fun _ _ _ _ _ => (qg_nm nd rfl (by first | exact Or.inl rfl | exact Or.inr rfl))) (fun _ _ _ _ _ => (qts_one (PW.pt (qw_and (qt_notIn hr (qe_add (qv 5) qe_int) (qv 1)) (qw_and1 (qt_eq hr (qe_fn (G_law_digit.mono (by decide)) hr (by rfl) takesN (qa_cons (qv 0) (qa_cons qe_int qa_nil))) qe_int)))))) (fun _ _ _ _ _ => (qe_add (qv 5) qe_int)) imp_ano)
    (qb_one (qs_ret (qe_tup (qa_cons (qv 3) (qa_cons (qe_tuple (by rfl) T.tuple (qa_cons (qe_ano (qn_lc (own := [("_law_key", 5)]) rfl nd (qi_s (qe_ano (qn_sort rfl (by rfl) T.sorted (qe_add (qv 1) (qv 4))))) (blkOk_by (by rfl)) (by decide) (fun _ _ _ _ _ => (qg_nm nd rfl (by first | exact Or.inl rfl | exact Or.inr rfl))) (fun _ _ _ _ _ => qts_nil) (fun _ _ _ _ _ => (qe_tup (qa_cons (qv 5) (qa_cons (qe_fn (G_law_digit.mono (by decide)) hr (by rfl) takesN (qa_cons (qv 0) (qa_cons (qv 3) qa_nil))) qa_nil)))))) qa_nil)) qa_nil))))))))
noncomputable abbrev s_law_drawn_heap : Stmt := topS 21
theorem c_law_drawn_heap : FnScope ["_law_rest", "_law_keys_here", "_law_many"] ["_law_rest", "_law_keys_here"] (defScope s_law_drawn_heap) := ⟨rfl, rfl, rfl, by decide +kernel, rfl, by decide +kernel, by decide +kernel⟩
noncomputable def b_law_drawn_heap : Stm := (sSeq (sSet 2 (eFn F_law_digit [(eVar 0), (eC (.int 9))]))
    (sSeq (sIf (eTB (e2 (eqD false) (eFn F_law_digit [(eVar 0), (eC (.int 4))]) (eC (.int 1)))) (sSet 2 (eFn F_law_digit [(eVar 0), (eC (.int 41))])) sNext)
    (sRet (eFn F_law_rows [(eVar 0), (eVar 1), (eVar 2), (e2 (eqD false) (eFn F_law_digit [(eVar 0), (eC (.int 3))]) (eC (.int 1)))]))))
noncomputable def F_law_drawn_heap : List D → Sto → Res D := runD .frz 3 b_law_drawn_heap
theorem k_law_drawn_heap (T : Bt K mg) (I : DefIn K mg "_law_drawn_heap" s_law_drawn_heap ["_law_rest", "_law_keys_here"]) (G_law_digit : DefOk P w K mg base cl "_law_digit" 1 ["_law_rest", "_law_many"] F_law_digit) (G_law_rows : DefOk P w K mg base cl "_law_rows" 3 ["_law_rest", "_law_keys_here", "_law_many", "_law_far"] F_law_rows) : DefOk P w K mg base cl "_law_drawn_heap" 4 ["_law_rest", "_law_keys_here"] F_law_drawn_heap := by
  refine def_ok (k := 3) I c_law_drawn_heap fun f cdv A outer s H E hr => ?_
  have nd := c_law_drawn_heap.nd
  have tk : L2N.Takes (cxOf (L2N.CX P w) P w K mg base ["_law_rest", "_law_keys_here", "_law_many"] "_law_drawn_heap" (defScope s_law_drawn_heap) f cdv A outer s H E) (fun c d _ H => E c d H)   := L2N.takes_of rfl rfl rfl rfl
  have hp : PassesOwn (model P w) (cxOf (L2N.CX P w) P w K mg base ["_law_rest", "_law_keys_here", "_law_many"] "_law_drawn_heap" (defScope s_law_drawn_heap) f cdv A outer s H E).A (cxOf (L2N.CX P w) P w K mg base ["_law_rest", "_law_keys_here", "_law_many"] "_law_drawn_heap" (defScope s_law_drawn_heap) f cdv A outer s H E).env (cxOf (L2N.CX P w) P w K mg base ["_law_rest", "_law_keys_here", "_law_many"] "_law_drawn_heap" (defScope s_law_drawn_heap) f cdv A outer s H E).xe := passes_of rfl
  exact (qb_cons (qs_set nd rfl (by first | exact Or.inl rfl | exact Or.inr rfl) (qe_fn (G_law_digit.mono (by decide)) hr (by rfl) tk (qa_cons (qv 0) (qa_cons qe_int qa_nil))))
    (qb_cons (qs_if (qt_eq hr (qe_fn (G_law_digit.mono (by decide)) hr (by rfl) tk (qa_cons (qv 0) (qa_cons qe_int qa_nil))) qe_int) (qb_one (qs_set nd rfl (by first | exact Or.inl rfl | exact Or.inr rfl) (qe_fn (G_law_digit.mono (by decide)) hr (by rfl) tk (qa_cons (qv 0) (qa_cons qe_int qa_nil))))) qb_nil)
    (qb_one (qs_ret (qe_fn (G_law_rows.mono (by decide)) hr (by rfl) tk (qa_cons (qv 0) (qa_cons (qv 1) (qa_cons (qv 2) (qa_cons (qe_eq hr (qe_fn (G_law_digit.mono (by decide)) hr (by rfl) tk (qa_cons (qv 0) (qa_cons qe_int qa_nil))) qe_int) qa_nil)))))))))
noncomputable abbrev s_law_by : Stmt := topS 22
theorem c_law_by : FnScope ["_law_one", "_law_tables", "_law_lists", "_law_row", "_law_place", "_law_made", "_law_table_here"] ["_law_one", "_law_tables"] (defScope s_law_by) := ⟨rfl, rfl, rfl, by decide +kernel, rfl, by decide +kernel, by decide +kernel⟩
noncomputable def b_law_by_1 : Stm := (sSeq (sSet 4 (eCall tupD [(eAno (nLc [6] (.nm 6) (iS (eVar 1)) tYesD (e2 ixD (eAno (nDctP (e2 ixD (eVar 6) (eC (.int 1))))) (e2 ixD (eVar 3) (eC (.int 0))))))]))
    (sExpr (eM "list" appD (eSdT (eVar 2) (eVar 4)) [(eVar 3)])))
noncomputable def b_law_by_2 : Stm := (sSet 5 (e2 addD (eVar 5) (e2 ixT (eVar 2) (eVar 4))))
noncomputable def b_law_by : Stm := (sSeq (sSet 2 (eNew nTdc0))
    (sSeq (sFgt [3, 4] (sFor [3, 4] (.nm 3) (iS (eVar 0)) b_law_by_1))
    (sSeq (sSet 5 (eAno (nLst [])))
    (sSeq (sFgt [4] (sFor [4] (.nm 4) (iS (eAno (nSortT (eVar 2)))) b_law_by_2))
    (sRet (eFn F_law_heap [(eVar 5)]))))))
noncomputable def F_law_by : List D → Sto → Res D := runD .frz 7 b_law_by
theorem k_law_by (T : Bt K mg) (I : DefIn K mg "_law_by" s_law_by ["_law_one", "_law_tables"]) (G_law_heap : DefOk P w K mg base cl "_law_heap" 1 ["_law_rows_here"] F_law_heap) : DefOk P w K mg base cl "_law_by" 2 ["_law_one", "_law_tables"] F_law_by := by
  refine def_ok (k := 1) I c_law_by fun f cdv A outer s H E hr => ?_
  have nd := c_law_by.nd
  have tk : L2N.Takes (cxOf (L2N.CX P w) P w K mg base ["_law_one", "_law_tables", "_law_lists", "_law_row", "_law_place", "_law_made", "_law_table_here"] "_law_by" (defScope s_law_by) f cdv A outer s H E) (fun c d _ H => E c d H)   := L2N.takes_of rfl rfl rfl rfl
  have hp : PassesOwn (model P w) (cxOf (L2N.CX P w) P w K mg base ["_law_one", "_law_tables", "_law_lists", "_law_row", "_law_place", "_law_made", "_law_table_here"] "_law_by" (defScope s_law_by) f cdv A outer s H E).A (cxOf (L2N.CX P w) P w K mg base ["_law_one", "_law_tables", "_law_lists", "_law_row", "_law_place", "_law_made", "_law_table_here"] "_law_by" (defScope s_law_by) f cdv A outer s H E).env (cxOf (L2N.CX P w) P w K mg base ["_law_one", "_law_tables", "_law_lists", "_law_row", "_law_place", "_law_made", "_law_table_here"] "_law_by" (defScope s_law_by) f cdv A outer s H E).xe := passes_of rfl
  exact (qb_cons (qs_set nd rfl (by first | exact Or.inl rfl | exact Or.inr rfl) (qe_new qn_tdc0))
    (qb_cons (qs_fgt [3, 4] (qs_for [3, 4] hp rfl (qi_s (qv 0)) (qg_nm nd rfl (by first | exact Or.inl rfl | exact Or.inr rfl))
    (qb_cons (qs_set nd rfl (by first | exact Or.inl rfl | exact Or.inr rfl) (qe_tuple (by rfl) T.tuple (qa_cons (qe_ano (qn_lc (own := [("_law_table_here", 6)]) rfl nd (qi_s (qv 1)) (blkOk_by (by rfl)) (by decide) (fun _ _ _ _ _ => (qg_nm nd rfl (by first | exact Or.inl rfl | exact Or.inr rfl))) (fun _ _ _ _ _ => qts_nil) (fun _ _ _ _ _ => (qe_ix hr (qe_ano (qn_dctP rfl (by rfl) T.dict (qe_ix hr (qv 6) qe_int))) (qe_ix hr (qv 3) qe_int))))) qa_nil)))
    (qb_one (qs_expr (qe_append (qe_setdT (un_of hr) (qv 2) (qv 4)) (qv 3)))))))
    (qb_cons (qs_set nd rfl (by first | exact Or.inl rfl | exact Or.inr rfl) (qe_ano (qn_lst qa_nil)))
    (qb_cons (qs_fgt [4] (qs_for [4] hp rfl (qi_s (qe_ano (qn_sortT (un_of hr) rfl (by rfl) T.sorted (qv 2)))) (qg_nm nd rfl (by first | exact Or.inl rfl | exact Or.inr rfl))
    (qb_one (qs_set nd rfl (by first | exact Or.inl rfl | exact Or.inr rfl) (qe_add (qv 5) (qe_ixT (un_of hr) (qv 2) (qv 4)))))))
    (qb_one (qs_ret (qe_fn (G_law_heap.mono (by decide)) hr (by rfl) tk (qa_cons (qv 5) qa_nil))))))))
noncomputable abbrev slaw : Stmt := topS 23
theorem claw : FnScope ["_law_script", "_law_rest", "_law_keys_here", "_law_one", "_law_tables", "_law_found", "_law_k"] ["_law_script"] (defScope slaw) := ⟨rfl, rfl, rfl, by decide +kernel, rfl, by decide +kernel, by decide +kernel⟩
noncomputable def blaw : Stm := (sSeq (sSet 1 (eNew (nLst [(eFn F_law_big [(eVar 0), (eC (.int 0))])])))
    (sSeq (sSet 2 (eFn F_law_keys [(eVar 1), (e2 addD (eC (.int 1)) (eFn F_law_digit [(eVar 1), (eC (.int 6))]))]))
    (sSeq (sSet 3 (eFn F_law_heap [(eFn F_law_drawn_heap [(eNew (nLst [(eFn F_law_big [(eVar 0), (eC (.int 7))])])), (eVar 2)])]))
    (sSeq (sSet 4 (eCall tupD [(eAno (nLc [6] (.nm 6) (iR1 (eFn F_law_digit [(eVar 1), (eC (.int 5))])) tYesD (eFn F_law_table [(eNew (nLst [(eFn F_law_big [(eVar 0), (e2 addD (eC (.int 14)) (eVar 6))])])), (eVar 2), (eC (.bl true))])))]))
    (sSeq (sSet 5 (eFn Fpassed_all [(eVar 3), (eVar 4)]))
    (sSeq (sIf (tOrD (eTB (e2 (eqD true) (eVar 5) (eFn F_law_by [(eVar 3), (e1 bkD (eVar 4))]))) (eTB (e2 (eqD true) (eFn Fcascaded [(eVar 3), (eVar 4)]) (eFn F_law_by [(eVar 3), (eVar 4)])))) (sRet (eC (.bl false))) sNext)
    (sRet (eAndD (e2 (eqD false) (eFn Fcascaded [(eVar 3), (e1 bkD (eVar 4))]) (eVar 5)) (eAndD (e2 (eqD false) (eFn Fpassed_all [(eVar 3), (eTup [])]) (eVar 3)) (e2 (eqD false) (eFn Fcascaded [(eVar 3), (eTup [])]) (eVar 3)))))))))))
noncomputable def Flaw : List D → Sto → Res D := runD .frz 7 blaw
theorem klaw (T : Bt K mg) (I : DefIn K mg "law" slaw ["_law_script"]) (G_law_keys : DefOk P w K mg base cl "_law_keys" 2 ["_law_rest", "_law_many"] F_law_keys) (G_law_heap : DefOk P w K mg base cl "_law_heap" 1 ["_law_rows_here"] F_law_heap) (Gpassed_all : DefOk P w K mg base cl "passed_all" 5 ["one", "tables"] Fpassed_all) (G_law_big : DefOk P w K mg base cl "_law_big" 2 ["_law_script", "_law_at"] F_law_big) (G_law_drawn_heap : DefOk P w K mg base cl "_law_drawn_heap" 4 ["_law_rest", "_law_keys_here"] F_law_drawn_heap) (G_law_digit : DefOk P w K mg base cl "_law_digit" 1 ["_law_rest", "_law_many"] F_law_digit) (G_law_table : DefOk P w K mg base cl "_law_table" 2 ["_law_rest", "_law_keys_here", "_law_far"] F_law_table) (G_law_by : DefOk P w K mg base cl "_law_by" 2 ["_law_one", "_law_tables"] F_law_by) (Gcascaded : DefOk P w K mg base cl "cascaded" 10 ["one", "tables"] Fcascaded) : DefOk P w K mg base cl "law" 11 ["_law_script"] Flaw := by
  refine def_ok (k := 10) I claw fun f cdv A outer s H E hr => ?_
  have nd := claw.nd
  have tk : L2N.Takes (cxOf (L2N.CX P w) P w K mg base ["_law_script", "_law_rest", "_law_keys_here", "_law_one", "_law_tables", "_law_found", "_law_k"] "law" (defScope slaw) f cdv A outer s H E) (fun c d _ H => E c d H)   := L2N.takes_of rfl rfl rfl rfl
  have hp : PassesOwn (model P w) (cxOf (L2N.CX P w) P w K mg base ["_law_script", "_law_rest", "_law_keys_here", "_law_one", "_law_tables", "_law_found", "_law_k"] "law" (defScope slaw) f cdv A outer s H E).A (cxOf (L2N.CX P w) P w K mg base ["_law_script", "_law_rest", "_law_keys_here", "_law_one", "_law_tables", "_law_found", "_law_k"] "law" (defScope slaw) f cdv A outer s H E).env (cxOf (L2N.CX P w) P w K mg base ["_law_script", "_law_rest", "_law_keys_here", "_law_one", "_law_tables", "_law_found", "_law_k"] "law" (defScope slaw) f cdv A outer s H E).xe := passes_of rfl
  exact (qb_cons (qs_set nd rfl (by first | exact Or.inl rfl | exact Or.inr rfl) (qe_new (qn_lst (qa_cons (qe_fn (G_law_big.mono (by decide)) hr (by rfl) tk (qa_cons (qv 0) (qa_cons qe_int qa_nil))) qa_nil))))
    (qb_cons (qs_set nd rfl (by first | exact Or.inl rfl | exact Or.inr rfl) (qe_fn (G_law_keys.mono (by decide)) hr (by rfl) tk (qa_cons (qv 1) (qa_cons (qe_add qe_int (qe_fn (G_law_digit.mono (by decide)) hr (by rfl) tk (qa_cons (qv 1) (qa_cons qe_int qa_nil)))) qa_nil))))
    (qb_cons (qs_set nd rfl (by first | exact Or.inl rfl | exact Or.inr rfl) (qe_fn (G_law_heap.mono (by decide)) hr (by rfl) tk (qa_cons (qe_fn (G_law_drawn_heap.mono (by decide)) hr (by rfl) tk (qa_cons (qe_new (qn_lst (qa_cons (qe_fn (G_law_big.mono (by decide)) hr (by rfl) tk (qa_cons (qv 0) (qa_cons qe_int qa_nil))) qa_nil))) (qa_cons (qv 2) qa_nil))) qa_nil)))
    (qb_cons (qs_set nd rfl (by first | exact Or.inl rfl | exact Or.inr rfl) (qe_tuple (by rfl) T.tuple (qa_cons (qe_ano (qn_lc (own := [("_law_k", 6)]) rfl nd (qi_r1 (by rfl) T.range (qe_fn (G_law_digit.mono (by decide)) hr (by rfl) tk (qa_cons (qv 1) (qa_cons qe_int qa_nil)))) (blkOk_by (by rfl)) (by decide) (fun _ _ _ _ _ => (qg_nm nd rfl (by first | exact Or.inl rfl | exact Or.inr rfl))) (fun _ _ _ _ _ => qts_nil) (fun _ _ _ _ _ => (qe_fn (G_law_table.mono (by decide)) hr (by rfl) takesN (qa_cons (qe_new (qn_lst (qa_cons (qe_fn (G_law_big.mono (by decide)) hr (by rfl) takesN (qa_cons (qv 0) (qa_cons (qe_add qe_int (qv 6)) qa_nil))) qa_nil))) (qa_cons (qv 2) (qa_cons qe_bl qa_nil))))))) qa_nil)))
    (qb_cons (qs_set nd rfl (by first | exact Or.inl rfl | exact Or.inr rfl) (qe_fn (Gpassed_all.mono (by decide)) hr (by rfl) tk (qa_cons (qv 3) (qa_cons (qv 4) qa_nil))))
    (qb_cons (qs_if (PW.pt (qw_or (qt_ne hr (qv 5) (qe_fn (G_law_by.mono (by decide)) hr (by rfl) tk (qa_cons (qv 3) (qa_cons (qe_back (qv 4)) qa_nil)))) (qw_or1 (qt_ne hr (qe_fn (Gcascaded.mono (by decide)) hr (by rfl) tk (qa_cons (qv 3) (qa_cons (qv 4) qa_nil))) (qe_fn (G_law_by.mono (by decide)) hr (by rfl) tk (qa_cons (qv 3) (qa_cons (qv 4) qa_nil))))))) (qb_one (qs_ret qe_bl)) qb_nil)
    (qb_one (qs_ret (qe_and (qe_eq hr (qe_fn (Gcascaded.mono (by decide)) hr (by rfl) tk (qa_cons (qv 3) (qa_cons (qe_back (qv 4)) qa_nil))) (qv 5)) (qe_and (qe_eq hr (qe_fn (Gpassed_all.mono (by decide)) hr (by rfl) tk (qa_cons (qv 3) (qa_cons (qe_tup qa_nil) qa_nil))) (qv 3)) (qe_one (qe_eq hr (qe_fn (Gcascaded.mono (by decide)) hr (by rfl) tk (qa_cons (qv 3) (qa_cons (qe_tup qa_nil) qa_nil))) (qv 3)))))))))))))
end
theorem all_ok {l : PySem.W.OpenLaw} {w : World} {K : PySem.W.Frag} {h : Heap} {mg : Str → Option Value} {cl : Str → Addr} {fa : Addr} (X : K.In h) (G : h.Ns mainGlobals mg) (hfa : mg "law" = some (.ref fa))
    {f0 : Addr} {od0 an0 : Option Addr} {sl0 : Array (Option Value)} {oc0 kV0 dc0 pm0 cd0 ct0 : Value}
    (a0 : PySem.W.nsIn K mainGlobals "heap" = some (some (.ref f0))) (l0 : K.lookup f0 = some ⟨oc0, od0, .func (PySem.W.fnOf "heap" "heap" (defArgs sheap) (defBody sheap) (defScope sheap) .none kV0 dc0 pm0 an0 cd0 ct0), sl0⟩) (c0 : PySem.W.codeIn K cd0 "heap" = true) (k0 : PySem.W.keepIn K (.ref f0) = true)
    {f1 : Addr} {od1 an1 : Option Addr} {sl1 : Array (Option Value)} {oc1 kV1 dc1 pm1 cd1 ct1 : Value}
    (a1 : PySem.W.nsIn K mainGlobals "joined" = some (some (.ref f1))) (l1 : K.lookup f1 = some ⟨oc1, od1, .func (PySem.W.fnOf "joined" "joined" (defArgs sjoined) (defBody sjoined) (defScope sjoined) .none kV1 dc1 pm1 an1 cd1 ct1), sl1⟩) (c1 : PySem.W.codeIn K cd1 "joined" = true) (k1 : PySem.W.keepIn K (.ref f1) = true)
    {f2 : Addr} {od2 an2 : Option Addr} {sl2 : Array (Option Value)} {oc2 kV2 dc2 pm2 cd2 ct2 : Value}
    (a2 : PySem.W.nsIn K mainGlobals "parted" = some (some (.ref f2))) (l2 : K.lookup f2 = some ⟨oc2, od2, .func (PySem.W.fnOf "parted" "parted" (defArgs sparted) (defBody sparted) (defScope sparted) .none kV2 dc2 pm2 an2 cd2 ct2), sl2⟩) (c2 : PySem.W.codeIn K cd2 "parted" = true) (k2 : PySem.W.keepIn K (.ref f2) = true)
    {f3 : Addr} {od3 an3 : Option Addr} {sl3 : Array (Option Value)} {oc3 kV3 dc3 pm3 cd3 ct3 : Value}
    (a3 : PySem.W.nsIn K mainGlobals "together" = some (some (.ref f3))) (l3 : K.lookup f3 = some ⟨oc3, od3, .func (PySem.W.fnOf "together" "together" (defArgs stogether) (defBody stogether) (defScope stogether) .none kV3 dc3 pm3 an3 cd3 ct3), sl3⟩) (c3 : PySem.W.codeIn K cd3 "together" = true) (k3 : PySem.W.keepIn K (.ref f3) = true)
    {f4 : Addr} {od4 an4 : Option Addr} {sl4 : Array (Option Value)} {oc4 kV4 dc4 pm4 cd4 ct4 : Value}
    (a4 : PySem.W.nsIn K mainGlobals "passed" = some (some (.ref f4))) (l4 : K.lookup f4 = some ⟨oc4, od4, .func (PySem.W.fnOf "passed" "passed" (defArgs spassed) (defBody spassed) (defScope spassed) .none kV4 dc4 pm4 an4 cd4 ct4), sl4⟩) (c4 : PySem.W.codeIn K cd4 "passed" = true) (k4 : PySem.W.keepIn K (.ref f4) = true)
    {f5 : Addr} {od5 an5 : Option Addr} {sl5 : Array (Option Value)} {oc5 kV5 dc5 pm5 cd5 ct5 : Value}
    (a5 : PySem.W.nsIn K mainGlobals "passed_all" = some (some (.ref f5))) (l5 : K.lookup f5 = some ⟨oc5, od5, .func (PySem.W.fnOf "passed_all" "passed_all" (defArgs spassed_all) (defBody spassed_all) (defScope spassed_all) .none kV5 dc5 pm5 an5 cd5 ct5), sl5⟩) (c5 : PySem.W.codeIn K cd5 "passed_all" = true) (k5 : PySem.W.keepIn K (.ref f5) = true)
    {f6 : Addr} {od6 an6 : Option Addr} {sl6 : Array (Option Value)} {oc6 kV6 dc6 pm6 cd6 ct6 : Value}
    (a6 : PySem.W.nsIn K mainGlobals "cascaded" = some (some (.ref f6))) (l6 : K.lookup f6 = some ⟨oc6, od6, .func (PySem.W.fnOf "cascaded" "cascaded" (defArgs scascaded) (defBody scascaded) (defScope scascaded) .none kV6 dc6 pm6 an6 cd6 ct6), sl6⟩) (c6 : PySem.W.codeIn K cd6 "cascaded" = true) (k6 : PySem.W.keepIn K (.ref f6) = true)
    {f7 : Addr} {od7 an7 : Option Addr} {sl7 : Array (Option Value)} {oc7 kV7 dc7 pm7 cd7 ct7 : Value}
    (a7 : PySem.W.nsIn K mainGlobals "_law_cell_at" = some (some (.ref f7))) (l7 : K.lookup f7 = some ⟨oc7, od7, .func (PySem.W.fnOf "_law_cell_at" "_law_cell_at" (defArgs s_law_cell_at) (defBody s_law_cell_at) (defScope s_law_cell_at) .none kV7 dc7 pm7 an7 cd7 ct7), sl7⟩) (c7 : PySem.W.codeIn K cd7 "_law_cell_at" = true) (k7 : PySem.W.keepIn K (.ref f7) = true)
    {f8 : Addr} {od8 an8 : Option Addr} {sl8 : Array (Option Value)} {oc8 kV8 dc8 pm8 cd8 ct8 : Value}
    (a8 : PySem.W.nsIn K mainGlobals "_law_big" = some (some (.ref f8))) (l8 : K.lookup f8 = some ⟨oc8, od8, .func (PySem.W.fnOf "_law_big" "_law_big" (defArgs s_law_big) (defBody s_law_big) (defScope s_law_big) .none kV8 dc8 pm8 an8 cd8 ct8), sl8⟩) (c8 : PySem.W.codeIn K cd8 "_law_big" = true) (k8 : PySem.W.keepIn K (.ref f8) = true)
    {f9 : Addr} {od9 an9 : Option Addr} {sl9 : Array (Option Value)} {oc9 kV9 dc9 pm9 cd9 ct9 : Value}
    (a9 : PySem.W.nsIn K mainGlobals "_law_digit" = some (some (.ref f9))) (l9 : K.lookup f9 = some ⟨oc9, od9, .func (PySem.W.fnOf "_law_digit" "_law_digit" (defArgs s_law_digit) (defBody s_law_digit) (defScope s_law_digit) .none kV9 dc9 pm9 an9 cd9 ct9), sl9⟩) (c9 : PySem.W.codeIn K cd9 "_law_digit" = true) (k9 : PySem.W.keepIn K (.ref f9) = true)
    {f10 : Addr} {od10 an10 : Option Addr} {sl10 : Array (Option Value)} {oc10 kV10 dc10 pm10 cd10 ct10 : Value}
    (a10 : PySem.W.nsIn K mainGlobals "_law_whole" = some (some (.ref f10))) (l10 : K.lookup f10 = some ⟨oc10, od10, .func (PySem.W.fnOf "_law_whole" "_law_whole" (defArgs s_law_whole) (defBody s_law_whole) (defScope s_law_whole) .none kV10 dc10 pm10 an10 cd10 ct10), sl10⟩) (c10 : PySem.W.codeIn K cd10 "_law_whole" = true) (k10 : PySem.W.keepIn K (.ref f10) = true)
    {f11 : Addr} {od11 an11 : Option Addr} {sl11 : Array (Option Value)} {oc11 kV11 dc11 pm11 cd11 ct11 : Value}
    (a11 : PySem.W.nsIn K mainGlobals "_law_keys" = some (some (.ref f11))) (l11 : K.lookup f11 = some ⟨oc11, od11, .func (PySem.W.fnOf "_law_keys" "_law_keys" (defArgs s_law_keys) (defBody s_law_keys) (defScope s_law_keys) .none kV11 dc11 pm11 an11 cd11 ct11), sl11⟩) (c11 : PySem.W.codeIn K cd11 "_law_keys" = true) (k11 : PySem.W.keepIn K (.ref f11) = true)
    {f12 : Addr} {od12 an12 : Option Addr} {sl12 : Array (Option Value)} {oc12 kV12 dc12 pm12 cd12 ct12 : Value}
    (a12 : PySem.W.nsIn K mainGlobals "_law_rows" = some (some (.ref f12))) (l12 : K.lookup f12 = some ⟨oc12, od12, .func (PySem.W.fnOf "_law_rows" "_law_rows" (defArgs s_law_rows) (defBody s_law_rows) (defScope s_law_rows) .none kV12 dc12 pm12 an12 cd12 ct12), sl12⟩) (c12 : PySem.W.codeIn K cd12 "_law_rows" = true) (k12 : PySem.W.keepIn K (.ref f12) = true)
    {f13 : Addr} {od13 an13 : Option Addr} {sl13 : Array (Option Value)} {oc13 kV13 dc13 pm13 cd13 ct13 : Value}
    (a13 : PySem.W.nsIn K mainGlobals "_law_heap" = some (some (.ref f13))) (l13 : K.lookup f13 = some ⟨oc13, od13, .func (PySem.W.fnOf "_law_heap" "_law_heap" (defArgs s_law_heap) (defBody s_law_heap) (defScope s_law_heap) .none kV13 dc13 pm13 an13 cd13 ct13), sl13⟩) (c13 : PySem.W.codeIn K cd13 "_law_heap" = true) (k13 : PySem.W.keepIn K (.ref f13) = true)
    {f14 : Addr} {od14 an14 : Option Addr} {sl14 : Array (Option Value)} {oc14 kV14 dc14 pm14 cd14 ct14 : Value}
    (a14 : PySem.W.nsIn K mainGlobals "_law_table" = some (some (.ref f14))) (l14 : K.lookup f14 = some ⟨oc14, od14, .func (PySem.W.fnOf "_law_table" "_law_table" (defArgs s_law_table) (defBody s_law_table) (defScope s_law_table) .none kV14 dc14 pm14 an14 cd14 ct14), sl14⟩) (c14 : PySem.W.codeIn K cd14 "_law_table" = true) (k14 : PySem.W.keepIn K (.ref f14) = true)
    {f15 : Addr} {od15 an15 : Option Addr} {sl15 : Array (Option Value)} {oc15 kV15 dc15 pm15 cd15 ct15 : Value}
    (a15 : PySem.W.nsIn K mainGlobals "_law_drawn_heap" = some (some (.ref f15))) (l15 : K.lookup f15 = some ⟨oc15, od15, .func (PySem.W.fnOf "_law_drawn_heap" "_law_drawn_heap" (defArgs s_law_drawn_heap) (defBody s_law_drawn_heap) (defScope s_law_drawn_heap) .none kV15 dc15 pm15 an15 cd15 ct15), sl15⟩) (c15 : PySem.W.codeIn K cd15 "_law_drawn_heap" = true) (k15 : PySem.W.keepIn K (.ref f15) = true)
    {f16 : Addr} {od16 an16 : Option Addr} {sl16 : Array (Option Value)} {oc16 kV16 dc16 pm16 cd16 ct16 : Value}
    (a16 : PySem.W.nsIn K mainGlobals "_law_by" = some (some (.ref f16))) (l16 : K.lookup f16 = some ⟨oc16, od16, .func (PySem.W.fnOf "_law_by" "_law_by" (defArgs s_law_by) (defBody s_law_by) (defScope s_law_by) .none kV16 dc16 pm16 an16 cd16 ct16), sl16⟩) (c16 : PySem.W.codeIn K cd16 "_law_by" = true) (k16 : PySem.W.keepIn K (.ref f16) = true)
    {f17 : Addr} {od17 an17 : Option Addr} {sl17 : Array (Option Value)} {oc17 kV17 dc17 pm17 cd17 ct17 : Value}
    (a17 : PySem.W.nsIn K mainGlobals "law" = some (some (.ref f17))) (l17 : K.lookup f17 = some ⟨oc17, od17, .func (PySem.W.fnOf "law" "law" (defArgs slaw) (defBody slaw) (defScope slaw) .none kV17 dc17 pm17 an17 cd17 ct17), sl17⟩) (c17 : PySem.W.codeIn K cd17 "law" = true) (k17 : PySem.W.keepIn K (.ref f17) = true)
    (z_dict : PySem.W.nsIn K mainGlobals "dict" = some none)
    (z_int : PySem.W.nsIn K mainGlobals "int" = some none)
    (z_len : PySem.W.nsIn K mainGlobals "len" = some none)
    (z_range : PySem.W.nsIn K mainGlobals "range" = some none)
    (z_sorted : PySem.W.nsIn K mainGlobals "sorted" = some none)
    (z_tuple : PySem.W.nsIn K mainGlobals "tuple" = some none)
    : ∃ fd : FuncData, (∀ (s : Shared) (u : Value), BindsTo s fd ⟨[u], []⟩ [("_law_script", u)]) ∧ ∀ base : Heap, K.In base → base.Ns mainGlobals mg → FnOk l.prog w K mg base (L2N.CX l.prog w) 11 fa fd ["_law_script"] (SpD K cl 1 Flaw) := by
  have T : Bt K mg := ⟨PySem.W.mg_none_of X G z_dict, PySem.W.mg_none_of X G z_int, PySem.W.mg_none_of X G z_len, PySem.W.mg_none_of X G z_range, PySem.W.mg_none_of X G z_sorted, PySem.W.mg_none_of X G z_tuple⟩
  have I0 : DefIn K mg "heap" sheap ["rows"] := defIn_mk X G a0 l0 c0 k0 fun _ _ _ _ _ _ => us1 (fun _ => rfl)
  have I1 : DefIn K mg "joined" sjoined ["one", "other"] := defIn_mk X G a1 l1 c1 k1 fun _ _ _ _ _ _ => us2 (fun _ _ => rfl)
  have I2 : DefIn K mg "parted" sparted ["one", "table"] := defIn_mk X G a2 l2 c2 k2 fun _ _ _ _ _ _ => us2 (fun _ _ => rfl)
  have I3 : DefIn K mg "together" stogether ["heaps"] := defIn_mk X G a3 l3 c3 k3 fun _ _ _ _ _ _ => us1 (fun _ => rfl)
  have I4 : DefIn K mg "passed" spassed ["one", "table"] := defIn_mk X G a4 l4 c4 k4 fun _ _ _ _ _ _ => us2 (fun _ _ => rfl)
  have I5 : DefIn K mg "passed_all" spassed_all ["one", "tables"] := defIn_mk X G a5 l5 c5 k5 fun _ _ _ _ _ _ => us2 (fun _ _ => rfl)
  have I6 : DefIn K mg "cascaded" scascaded ["one", "tables"] := defIn_mk X G a6 l6 c6 k6 fun _ _ _ _ _ _ => us2 (fun _ _ => rfl)
  have I7 : DefIn K mg "_law_cell_at" s_law_cell_at ["_law_script", "_law_k"] := defIn_mk X G a7 l7 c7 k7 fun _ _ _ _ _ _ => us2 (fun _ _ => rfl)
  have I8 : DefIn K mg "_law_big" s_law_big ["_law_script", "_law_at"] := defIn_mk X G a8 l8 c8 k8 fun _ _ _ _ _ _ => us2 (fun _ _ => rfl)
  have I9 : DefIn K mg "_law_digit" s_law_digit ["_law_rest", "_law_many"] := defIn_mk X G a9 l9 c9 k9 fun _ _ _ _ _ _ => us2 (fun _ _ => rfl)
  have I10 : DefIn K mg "_law_whole" s_law_whole ["_law_rest"] := defIn_mk X G a10 l10 c10 k10 fun _ _ _ _ _ _ => us1 (fun _ => rfl)
  have I11 : DefIn K mg "_law_keys" s_law_keys ["_law_rest", "_law_many"] := defIn_mk X G a11 l11 c11 k11 fun _ _ _ _ _ _ => us2 (fun _ _ => rfl)
  have I12 : DefIn K mg "_law_rows" s_law_rows ["_law_rest", "_law_keys_here", "_law_many", "_law_far"] := defIn_mk X G a12 l12 c12 k12 fun _ _ _ _ _ _ => us4 (fun _ _ _ _ => rfl)
  have I13 : DefIn K mg "_law_heap" s_law_heap ["_law_rows_here"] := defIn_mk X G a13 l13 c13 k13 fun _ _ _ _ _ _ => us1 (fun _ => rfl)
  have I14 : DefIn K mg "_law_table" s_law_table ["_law_rest", "_law_keys_here", "_law_far"] := defIn_mk X G a14 l14 c14 k14 fun _ _ _ _ _ _ => us3 (fun _ _ _ => rfl)
  have I15 : DefIn K mg "_law_drawn_heap" s_law_drawn_heap ["_law_rest", "_law_keys_here"] := defIn_mk X G a15 l15 c15 k15 fun _ _ _ _ _ _ => us2 (fun _ _ => rfl)
  have I16 : DefIn K mg "_law_by" s_law_by ["_law_one", "_law_tables"] := defIn_mk X G a16 l16 c16 k16 fun _ _ _ _ _ _ => us2 (fun _ _ => rfl)
  have I17 : DefIn K mg "law" slaw ["_law_script"] := defIn_mk X G a17 l17 c17 k17 fun _ _ _ _ _ _ => us1 (fun _ => rfl)
  obtain ⟨fd, hb, hF⟩ := law_fn (P := l.prog) (w := w) (cl := cl) (k := 11) (F := Flaw) I17 hfa
  refine ⟨fd, fun s u => .of_eq (hb [u] rfl), fun base _ _ => hF base ?_⟩
  have Gheap : DefOk l.prog w K mg base cl "heap" 1 ["rows"] Fheap := kheap T I0 
  have Gjoined : DefOk l.prog w K mg base cl "joined" 2 ["one", "other"] Fjoined := kjoined T I1 Gheap
  have Gparted : DefOk l.prog w K mg base cl "parted" 2 ["one", "table"] Fparted := kparted T I2 Gheap
  have Gtogether : DefOk l.prog w K mg base cl "together" 3 ["heaps"] Ftogether := ktogether T I3 Gjoined
  have Gpassed : DefOk l.prog w K mg base cl "passed" 4 ["one", "table"] Fpassed := kpassed T I4 Gtogether Gparted
  have Gpassed_all : DefOk l.prog w K mg base cl "passed_all" 5 ["one", "tables"] Fpassed_all := kpassed_all T I5 Gpassed
  have Gcascaded : DefOk l.prog w K mg base cl "cascaded" 10 ["one", "tables"] Fcascaded := kcascaded T I6 Gtogether Gparted
  have G_law_cell_at : DefOk l.prog w K mg base cl "_law_cell_at" 1 ["_law_script", "_law_k"] F_law_cell_at := k_law_cell_at T I7 
  have G_law_big : DefOk l.prog w K mg base cl "_law_big" 2 ["_law_script", "_law_at"] F_law_big := k_law_big T I8 G_law_cell_at
  have G_law_digit : DefOk l.prog w K mg base cl "_law_digit" 1 ["_law_rest", "_law_many"] F_law_digit := k_law_digit T I9 
  have G_law_whole : DefOk l.prog w K mg base cl "_law_whole" 2 ["_law_rest"] F_law_whole := k_law_whole T I10 G_law_digit
  have G_law_keys : DefOk l.prog w K mg base cl "_law_keys" 2 ["_law_rest", "_law_many"] F_law_keys := k_law_keys T I11 G_law_digit
  have G_law_rows : DefOk l.prog w K mg base cl "_law_rows" 3 ["_law_rest", "_law_keys_here", "_law_many", "_law_far"] F_law_rows := k_law_rows T I12 G_law_digit G_law_whole
  have G_law_heap : DefOk l.prog w K mg base cl "_law_heap" 1 ["_law_rows_here"] F_law_heap := k_law_heap T I13 
  have G_law_table : DefOk l.prog w K mg base cl "_law_table" 2 ["_law_rest", "_law_keys_here", "_law_far"] F_law_table := k_law_table T I14 G_law_digit
  have G_law_drawn_heap : DefOk l.prog w K mg base cl "_law_drawn_heap" 4 ["_law_rest", "_law_keys_here"] F_law_drawn_heap := k_law_drawn_heap T I15 G_law_digit G_law_rows
  have G_law_by : DefOk l.prog w K mg base cl "_law_by" 2 ["_law_one", "_law_tables"] F_law_by := k_law_by T I16 G_law_heap
  exact klaw T I17 G_law_keys G_law_heap Gpassed_all G_law_big G_law_drawn_heap G_law_digit G_law_table G_law_by Gcascaded
end Lw
set_option Elab.async false
set_option linter.all false
set_option maxRecDepth 100000
namespace Lw
open PySem PySem.Spec PyProof.Rows L2 Pu
theorem ixN_m1 {n : Nat} (h : 0 < n) : ixN n (-1) = some (n - 1) := by
  unfold ixN
  rw [if_neg (by decide), if_pos (by omega)]
  congr 1
  omega
theorem set_end {α : Type} {f : List α} {l a : α} (h : f.getLast? = some l) : f.set (f.length - 1) a = f.dropLast ++ [a] := by
  rcases List.eq_nil_or_concat f with e | ⟨g, y, e⟩
  · subst e; cases h
  · subst e
    simp [List.concat_eq_append]
noncomputable def getZ (kvs : List (Int × Int)) (k : Int) : Option Int := (kvs.find? fun p => decide (p.1 = k)).map (·.2)
noncomputable def putZ (kvs : List (Int × Int)) (k v : Int) : List (Int × Int) := if (kvs.any fun p => decide (p.1 = k)) = true then kvs.map fun p => if p.1 = k then (p.1, v) else p else kvs ++ [(k, v)]
noncomputable def dz (kvs : List (Int × Int)) : List (Key × D) := kvs.map fun p => (Sum.inl p.1, D.int p.2)
theorem dz_get (kvs : List (Int × Int)) (k : Int) : getK (dz kvs) (.inl k) = (getZ kvs k).map D.int := by
  unfold getK dz getZ
  induction kvs with
  | nil => rfl
  | cons p ps ih =>
    simp only [List.map_cons, List.find?_cons]
    by_cases h : p.1 = k
    · simp [h]
    · simp only [h, decide_false]
      simpa [h] using ih
theorem dz_any (kvs : List (Int × Int)) (k : Int) : ((dz kvs).any fun kv => decide (kv.1 = Sum.inl k)) = kvs.any fun p => decide (p.1 = k) := by
  unfold dz
  rw [List.any_map]
  congr 1
  funext p
  simp
theorem dz_put (kvs : List (Int × Int)) (k v : Int) : putD (dz kvs) (.inl k) (.int v) = dz (putZ kvs k v) := by
  unfold putD putZ
  rw [dz_any]
  split
  · unfold dz
    rw [List.map_map, List.map_map]
    refine List.map_congr_left fun p _ => ?_
    by_cases h : p.1 = k
    · simp [h]
    · simp [h]
  · simp [dz]
theorem putZ_keys (kvs : List (Int × Int)) (k v : Int) : (putZ kvs k v).map (·.1) = if k ∈ kvs.map (·.1) then kvs.map (·.1) else kvs.map (·.1) ++ [k] := by
  have h : (kvs.any fun p => decide (p.1 = k)) = true ↔ k ∈ kvs.map (·.1) := by
    simp [List.any_eq_true, List.mem_map]
  unfold putZ
  by_cases hm : k ∈ kvs.map (·.1)
  · rw [if_pos (h.mpr hm), if_pos hm, List.map_map]
    refine List.map_congr_left fun p _ => ?_
    by_cases hp : p.1 = k
    · simp [hp]
    · simp [hp]
  · rw [if_neg (fun x => hm (h.mp x)), if_neg hm, List.map_append]
    rfl
theorem mem_putZ {kvs : List (Int × Int)} {k v j : Int} : j ∈ (putZ kvs k v).map (·.1) ↔ j = k ∨ j ∈ kvs.map (·.1) := by
  rw [putZ_keys]
  split
  · rename_i h
    constructor
    · exact .inr
    · rintro (rfl | h')
      · exact h
      · exact h'
  · rw [List.mem_append, List.mem_singleton]
    exact or_comm
theorem getZ_none {kvs : List (Int × Int)} {k : Int} : getZ kvs k = none ↔ k ∉ kvs.map (·.1) := by
  unfold getZ
  rw [Option.map_eq_none_iff, List.find?_eq_none]
  constructor
  · intro h hm
    obtain ⟨p, hp, e⟩ := List.mem_map.mp hm
    exact h p hp (by simpa using e)
  · intro h p hp e
    exact h (List.mem_map.mpr ⟨p, hp, by simpa using e⟩)
theorem getZ_some_iff {kvs : List (Int × Int)} {k : Int} : (getZ kvs k).isSome = true ↔ k ∈ kvs.map (·.1) := by
  have := getZ_none (kvs := kvs) (k := k)
  cases h : getZ kvs k with
  | none => simp [this.mp h]
  | some v =>
    rw [h] at this
    simp only [Option.isSome_some, true_iff]
    exact Classical.not_not.mp fun x => by simpa using this.mpr x
theorem ixD_dct {S : Sto} {o : D} {d : List (Int × Int)} {k v : Int} (hat : dcOf S o = some (dz d)) (hv : getZ d k = some v) : ixD o (.int k) S = .ok (.int v) S := by
  simp only [ixD, hat, Pu.keyOf, dz_get, hv, Option.map_some, opt_some]
theorem dcR {S : Sto} {n : Nat} {d : List (Key × D)} (hat : S[n]? = some (.dct d)) : dcOf S (.ref n) = some d := by simp only [dcOf, hat]
theorem inD_dct {S : Sto} {o : D} {d : List (Int × Int)} {k : Int} {neg : Bool} (hat : dcOf S o = some (dz d)) : inD neg (.int k) o S = .ok (.bl (if neg = true then !(getZ d k).isSome else (getZ d k).isSome)) S := by
  have e : (getK (dz d) (.inl k)).isSome = (getZ d k).isSome := by
    rw [dz_get]
    cases getZ d k <;> rfl
  simp only [inD, hat, Pu.keyOf, e]
noncomputable def gt {β : Type} (kvs : List (Int × β)) (k : Int) : Option β := (kvs.find? fun p => decide (p.1 = k)).map (·.2)
noncomputable def pt {β : Type} (kvs : List (Int × β)) (k : Int) (v : β) : List (Int × β) := if (kvs.any fun p => decide (p.1 = k)) = true then kvs.map fun p => if p.1 = k then (p.1, v) else p else kvs ++ [(k, v)]
section
variable {β : Type} {f : β → D}
theorem pt_len (kvs : List (Int × β)) (k : Int) (v : β) : (pt kvs k v).length ≤ kvs.length + 1 := by
  unfold pt
  split <;> simp
theorem pt_keys (kvs : List (Int × β)) (k : Int) (v : β) : (pt kvs k v).map (·.1) = if k ∈ kvs.map (·.1) then kvs.map (·.1) else kvs.map (·.1) ++ [k] := by
  have h : (kvs.any fun p => decide (p.1 = k)) = true ↔ k ∈ kvs.map (·.1) := by
    simp [List.any_eq_true, List.mem_map]
  unfold pt
  by_cases hm : k ∈ kvs.map (·.1)
  · rw [if_pos (h.mpr hm), if_pos hm, List.map_map]
    refine List.map_congr_left fun p _ => ?_
    by_cases hp : p.1 = k
    · simp [hp]
    · simp [hp]
  · rw [if_neg (fun x => hm (h.mp x)), if_neg hm, List.map_append]
    rfl
theorem pt_nodup {kvs : List (Int × β)} (h : (kvs.map (·.1)).Nodup) (k : Int) (v : β) : ((pt kvs k v).map (·.1)).Nodup := by
  rw [pt_keys]
  split
  · exact h
  · rename_i hm
    refine List.nodup_append.mpr ⟨h, by simp, fun a ha b hb => ?_⟩
    rw [List.mem_singleton] at hb
    subst hb
    intro e
    subst e
    exact hm ha
theorem mem_pt {kvs : List (Int × β)} {k : Int} {v : β} {j : Int} : j ∈ (pt kvs k v).map (·.1) ↔ j = k ∨ j ∈ kvs.map (·.1) := by
  rw [pt_keys]
  split
  · rename_i h
    constructor
    · exact .inr
    · rintro (rfl | h')
      · exact h
      · exact h'
  · rw [List.mem_append, List.mem_singleton]
    exact or_comm
theorem gt_put (kvs : List (Int × β)) (k : Int) (v : β) (j : Int) : gt (pt kvs k v) j = if j = k then some v else gt kvs j := by
  induction kvs with
  | nil =>
    by_cases h : j = k
    · subst h; simp [pt, gt]
    · simp [pt, gt, h, Ne.symm h]
  | cons p ps ih =>
    by_cases hp : p.1 = k
    · have e : pt (p :: ps) k v = (p.1, v) :: ps.map (fun q => if q.1 = k then (q.1, v) else q) := by
        simp [pt, hp]
      rw [e]
      by_cases h : j = k
      · subst h; simp [gt, hp]
      · have : ¬ p.1 = j := fun x => h (by rw [← x, hp])
        simp only [h, if_false, gt, List.find?_cons, this, decide_false]
        congr 1
        clear ih e
        induction ps with
        | nil => rfl
        | cons q qs ih2 =>
          rw [List.map_cons, List.find?_cons, List.find?_cons]
          by_cases hq : q.1 = k
          · have : ¬ q.1 = j := fun x => h (by rw [← x, hq])
            simp only [hq, if_true, show ¬ k = j from fun x => h x.symm, decide_false, ih2]
          · simp only [hq, if_false]
            by_cases hj : q.1 = j
            · simp only [hj, decide_true]
            · simp only [hj, decide_false, ih2]
    · have e : pt (p :: ps) k v = p :: pt ps k v := by
        simp only [pt, List.any_cons, hp, decide_false, Bool.false_or, List.map_cons, if_false, List.cons_append]
        split <;> rfl
      rw [e]
      by_cases hj : p.1 = j
      · subst hj
        simp [gt, hp]
      · have : gt (p :: pt ps k v) j = gt (pt ps k v) j := by simp [gt, hj]
        rw [this, ih]
        have : gt (p :: ps) j = gt ps j := by simp [gt, hj]
        rw [this]
end
section
variable {β : Type}
noncomputable def liG (g : β → Int) (l : List (Int × List β)) (r : β) : List (Int × List β) := pt l (g r) ((gt l (g r)).getD [] ++ [r])
theorem lig_get (g : β → Int) (s : Int) : ∀ (xs : List β) (l : List (Int × List β)), (gt (xs.foldl (liG g) l) s).getD [] = (gt l s).getD [] ++ xs.filter fun r => decide (g r = s)
  | [], l => by simp
  | x :: xs, l => by
    rw [List.foldl_cons, lig_get g s xs]
    unfold liG
    rw [gt_put, List.filter_cons]
    by_cases e : s = g x
    · subst e
      simp
    · rw [if_neg e, if_neg (by simpa using fun z => e z.symm)]
theorem lig_keys (g : β → Int) : ∀ (xs : List β) (l : List (Int × List β)), (∀ s, s ∈ (xs.foldl (liG g) l).map (·.1) ↔ s ∈ l.map (·.1) ∨ ∃ r ∈ xs, g r = s) ∧ ((l.map (·.1)).Nodup → ((xs.foldl (liG g) l).map (·.1)).Nodup) ∧ (xs.foldl (liG g) l).length ≤ l.length + xs.length
  | [], l => ⟨fun s => by simp, fun h => h, by simp⟩
  | x :: xs, l => by
    obtain ⟨h1, h2, h3⟩ := lig_keys g xs (liG g l x)
    refine ⟨fun s => ?_, fun h => h2 (pt_nodup h _ _), ?_⟩
    · rw [List.foldl_cons, h1]
      unfold liG
      rw [mem_pt]
      constructor
      · rintro ((a | a) | ⟨r, hr, e⟩)
        · exact .inr ⟨x, List.mem_cons_self, a.symm⟩
        · exact .inl a
        · exact .inr ⟨r, List.mem_cons_of_mem _ hr, e⟩
      · rintro (a | ⟨r, hr, e⟩)
        · exact .inl (.inr a)
        · rcases List.mem_cons.mp hr with hr | hr
          · subst hr
            exact .inl (.inl e.symm)
          · exact .inr ⟨r, hr, e⟩
    · have := pt_len l (g x) ((gt l (g x)).getD [] ++ [x])
      rw [List.foldl_cons, List.length_cons]
      unfold liG at h3 ⊢
      omega
/-- how long a list may become -/
theorem lig_len (g : β → Int) (l : List (Int × List β)) (x : β) (s : Int) {n m : Nat} (h : ((gt l s).getD []).length + (m + 1) < n) (h2 : ((gt l (g x)).getD []).length + (m + 1) < n) : ((gt (liG g l x) s).getD []).length + m < n := by
  unfold liG
  rw [gt_put]
  split
  · simp only [Option.getD_some, List.length_append, List.length_singleton]
    omega
  · omega
noncomputable def rdct (n : Nat) : List (Int × List β) → List (Key × D)
  | [] => []
  | p :: l => (.inl p.1, .ref n) :: rdct (n + 1) l
noncomputable def rlst (f : β → D) (l : List (Int × List β)) : Sto := l.map fun p => DO.lst (p.2.map f)
noncomputable def rT (f : β → D) (S : Sto) (l : List (Int × List β)) : Sto := S ++ DO.dct (rdct (S.length + 1) l) :: rlst f l
theorem rdct_app : ∀ (l1 l2 : List (Int × List β)) (n : Nat), rdct n (l1 ++ l2) = rdct n l1 ++ rdct (n + l1.length) l2
  | [], l2, n => rfl
  | p :: l1, l2, n => by
    rw [List.cons_append, rdct, rdct, rdct_app l1 l2 (n + 1), List.length_cons, List.cons_append, show n + 1 + l1.length = n + (l1.length + 1) by omega]
theorem rdct_keys : ∀ (l : List (Int × List β)) (n : Nat), keysI (rdct n l) = some (l.map (·.1))
  | [], _ => rfl
  | p :: l, n => by
    show (keysI (rdct (n + 1) l)).map (p.1 :: ·) = _
    rw [rdct_keys l]
    rfl
theorem rdct_len : ∀ (l : List (Int × List β)) (n : Nat), (rdct n l).length = l.length
  | [], _ => rfl
  | p :: l, n => by rw [rdct, List.length_cons, List.length_cons, rdct_len l]
theorem rdct_none {s : Int} : ∀ {l : List (Int × List β)} {n : Nat}, s ∉ l.map (·.1) → getK (rdct n l) (.inl s) = none
  | [], _, _ => rfl
  | p :: l, n, h => by
    rw [List.map_cons, List.mem_cons, not_or] at h
    have ih := rdct_none (n := n + 1) h.2
    unfold getK at ih ⊢
    rw [rdct, List.find?_cons_of_neg (by simpa using fun e => h.1 e.symm)]
    exact ih
theorem rdct_any {s : Int} : ∀ {l : List (Int × List β)} {n : Nat}, s ∉ l.map (·.1) → ((rdct n l).any fun kv => decide (kv.1 = Sum.inl s)) = false
  | [], _, _ => rfl
  | p :: l, n, h => by
    rw [List.map_cons, List.mem_cons, not_or] at h
    rw [rdct, List.any_cons, rdct_any h.2, Bool.or_false]
    simpa using fun e => h.1 e.symm
theorem rdct_put {s : Int} {l : List (Int × List β)} {n : Nat} (h : s ∉ l.map (·.1)) (d : D) : putD (rdct n l) (.inl s) d = rdct n l ++ [(.inl s, d)] := by
  unfold putD
  rw [rdct_any h, if_neg Bool.false_ne_true]
theorem rdct_some {s : Int} {v : List β} {l2 : List (Int × List β)} : ∀ {l1 : List (Int × List β)} {n : Nat}, s ∉ l1.map (·.1) → getK (rdct n (l1 ++ (s, v) :: l2)) (.inl s) = some (.ref (n + l1.length))
  | [], n, _ => by simp [rdct, getK]
  | p :: l1, n, h => by
    rw [List.map_cons, List.mem_cons, not_or] at h
    have ih := rdct_some (v := v) (l2 := l2) (n := n + 1) h.2
    unfold getK at ih ⊢
    rw [List.cons_append, rdct, List.find?_cons_of_neg (by simpa using fun e => h.1 e.symm), ih, List.length_cons, show n + 1 + l1.length = n + (l1.length + 1) by omega]
theorem pt_new {s : Int} {v : List β} {l : List (Int × List β)} (h : s ∉ l.map (·.1)) : pt l s v = l ++ [(s, v)] := by
  unfold pt
  rw [if_neg]
  rw [List.any_eq_true]
  rintro ⟨p, hp, e⟩
  exact h (List.mem_map.mpr ⟨p, hp, of_decide_eq_true e⟩)
theorem map_same {s : Int} {v : List β} : ∀ {l : List (Int × List β)}, s ∉ l.map (·.1) → (l.map fun p => if p.1 = s then (p.1, v) else p) = l
  | [], _ => rfl
  | p :: l, h => by
    rw [List.map_cons, List.mem_cons, not_or] at h
    rw [List.map_cons, if_neg (fun e => h.1 e.symm), map_same h.2]
theorem pt_old {s : Int} {v w : List β} {l1 l2 : List (Int × List β)} (h1 : s ∉ l1.map (·.1)) (h2 : s ∉ l2.map (·.1)) : pt (l1 ++ (s, w) :: l2) s v = l1 ++ (s, v) :: l2 := by
  unfold pt
  rw [if_pos (by simp), List.map_append, List.map_cons, map_same h1, map_same h2, if_pos rfl]
theorem gt_new {s : Int} {l : List (Int × List β)} (h : s ∉ l.map (·.1)) : gt l s = none := by
  unfold gt
  rw [List.find?_eq_none.mpr]
  · rfl
  · intro p hp e
    exact h (List.mem_map.mpr ⟨p, hp, of_decide_eq_true e⟩)
theorem gt_old {s : Int} {w : List β} {l1 l2 : List (Int × List β)} (h1 : s ∉ l1.map (·.1)) : gt (l1 ++ (s, w) :: l2) s = some w := by
  unfold gt
  rw [List.find?_append, List.find?_eq_none.mpr (fun p hp e => h1 (List.mem_map.mpr ⟨p, hp, of_decide_eq_true e⟩))]
  simp
theorem mid_at {α : Type} {S A B : List α} {o x : α} : (S ++ o :: (A ++ x :: B))[S.length + 1 + A.length]? = some x := by
  rw [show S ++ o :: (A ++ x :: B) = (S ++ o :: A) ++ x :: B by simp, List.getElem?_append_right (by simp; omega)]
  simp
  rw [show S.length + 1 + A.length - (S.length + (A.length + 1)) = 0 by omega]
  rfl
theorem mid_set {α : Type} {S A B : List α} {o x y : α} : (S ++ o :: (A ++ x :: B)).set (S.length + 1 + A.length) y = S ++ o :: (A ++ y :: B) := by
  have e : S ++ o :: (A ++ x :: B) = (S ++ o :: A) ++ x :: B := by simp
  have hl : (S ++ o :: A).length = S.length + 1 + A.length := by simp; omega
  rw [e, List.set_append, if_neg (by omega), hl, Nat.sub_self]
  simp
theorem top_at {α : Type} {S A : List α} {o : α} : (S ++ o :: A)[S.length]? = some o := by simp
theorem top_set {α : Type} {S A : List α} {o p : α} : (S ++ o :: A).set S.length p = S ++ p :: A := by simp
theorem key_split {s : Int} {l : List (Int × List β)} (hn : (l.map (·.1)).Nodup) (h : s ∈ l.map (·.1)) : ∃ l1 v l2, l = l1 ++ (s, v) :: l2 ∧ s ∉ l1.map (·.1) ∧ s ∉ l2.map (·.1) := by
  obtain ⟨p, hp, e⟩ := List.mem_map.mp h
  obtain ⟨l1, l2, el⟩ := List.append_of_mem hp
  obtain ⟨p1, p2⟩ := p
  simp only at e
  subst e
  rw [el, List.map_append, List.map_cons] at hn
  obtain ⟨_, n2, n3⟩ := List.nodup_append.mp hn
  exact ⟨l1, p2, l2, el, fun z => n3 _ z _ List.mem_cons_self rfl, (List.nodup_cons.mp n2).1⟩
theorem sd_step {f : β → D} (S : Sto) (l : List (Int × List β)) (hn : (l.map (·.1)).Nodup) (s : Int) (r : β) (h1 : l.length < 100000) (h2 : ((gt l s).getD []).length < 100000) : ∃ (m : Nat) (T : Sto), setd (.ref S.length) (.int s) (rT f S l) = .ok (.ref m) T ∧ isT "list" (.ref m) T ∧ appD (.ref m) [f r] T = .ok .non (rT f S (pt l s ((gt l s).getD [] ++ [r]))) := by
  have hat : (rT f S l)[S.length]? = some (.dct (rdct (S.length + 1) l)) := top_at
  have hz : (rdct (S.length + 1) l).length < sizeLine := by rw [rdct_len]; exact sz (by omega)
  by_cases hs : s ∈ l.map (·.1)
  · obtain ⟨l1, v, l2, el, n1, n2⟩ := key_split hn hs
    subst el
    rw [gt_old n1] at h2 ⊢
    have hv : (rT f S (l1 ++ (s, v) :: l2))[S.length + 1 + l1.length]? = some (.lst (v.map f)) := by
      unfold rT rlst
      rw [List.map_append, List.map_cons]
      have := mid_at (S := S) (A := l1.map fun p => DO.lst (p.2.map f)) (B := l2.map fun p => DO.lst (p.2.map f)) (o := DO.dct (rdct (S.length + 1) (l1 ++ (s, v) :: l2))) (x := DO.lst (v.map f))
      rwa [List.length_map] at this
    refine ⟨S.length + 1 + l1.length, rT f S (l1 ++ (s, v) :: l2), ?_, isT_ref hv, ?_⟩
    · simp only [setd, hat, Pu.keyOf, rdct_some n1, if_pos hz]
    · rw [appD_ref hv (sz (by simp only [Option.getD_some] at h2; rw [List.length_map]; omega)), Option.getD_some, pt_old n1 n2]
      unfold rT rlst
      rw [List.map_append, List.map_cons, List.map_append, List.map_cons]
      have := mid_set (S := S) (A := l1.map fun p => DO.lst (p.2.map f)) (B := l2.map fun p => DO.lst (p.2.map f)) (o := DO.dct (rdct (S.length + 1) (l1 ++ (s, v) :: l2))) (x := DO.lst (v.map f)) (y := DO.lst (v.map f ++ [f r]))
      rw [List.length_map] at this
      rw [this, rdct_app, rdct_app, List.map_append]
      rfl
  · rw [gt_new hs]
    have hm : (rT f S l).length = S.length + 1 + l.length := by unfold rT rlst; simp; omega
    refine ⟨(rT f S l).length, S ++ DO.dct (rdct (S.length + 1) l ++ [(.inl s, .ref (rT f S l).length)]) :: (rlst f l ++ [.lst []]), ?_, ?_⟩
    · simp only [setd, hat, Pu.keyOf, rdct_none hs, if_pos hz, rdct_put hs]
      have e : (rT f S l ++ [DO.lst []]).set S.length (DO.dct (rdct (S.length + 1) l ++ [(Sum.inl s, D.ref (rT f S l).length)])) = S ++ DO.dct (rdct (S.length + 1) l ++ [(.inl s, .ref (rT f S l).length)]) :: (rlst f l ++ [.lst []]) := by
        generalize DO.dct (rdct (S.length + 1) l ++ [(Sum.inl s, D.ref (rT f S l).length)]) = p
        unfold rT
        rw [List.append_assoc, List.cons_append, top_set]
      rw [e]
    · have hv : (S ++ DO.dct (rdct (S.length + 1) l ++ [(.inl s, .ref (rT f S l).length)]) :: (rlst f l ++ [.lst []]))[(rT f S l).length]? = some (.lst []) := by
        rw [hm]
        have := mid_at (S := S) (A := rlst f l) (B := []) (o := DO.dct (rdct (S.length + 1) l ++ [(.inl s, .ref (S.length + 1 + l.length))])) (x := DO.lst [])
        rwa [show (rlst f l).length = l.length by unfold rlst; simp] at this
      refine ⟨isT_ref hv, ?_⟩
      rw [appD_ref hv (sz (by simp)), pt_new hs, hm]
      have := mid_set (S := S) (A := rlst f l) (B := []) (o := DO.dct (rdct (S.length + 1) l ++ [(.inl s, .ref (S.length + 1 + l.length))])) (x := DO.lst []) (y := DO.lst ([] ++ [f r]))
      rw [show (rlst f l).length = l.length by unfold rlst; simp] at this
      rw [this]
      unfold rT
      rw [rdct_app]
      unfold rlst
      rw [List.map_append]
      rfl
/-- a list is found by its key -/
theorem rT_ix {f : β → D} {S : Sto} {l : List (Int × List β)} (hn : (l.map (·.1)).Nodup) {s : Int} (hs : s ∈ l.map (·.1)) : ∃ m : Nat, ixD (.ref S.length) (.int s) (rT f S l) = .ok (.ref m) (rT f S l) ∧ (rT f S l)[m]? = some (.lst (((gt l s).getD []).map f)) := by
  obtain ⟨l1, v, l2, el, n1, n2⟩ := key_split hn hs
  subst el
  have hat : (rT f S (l1 ++ (s, v) :: l2))[S.length]? = some (.dct (rdct (S.length + 1) (l1 ++ (s, v) :: l2))) := top_at
  refine ⟨S.length + 1 + l1.length, ?_, ?_⟩
  · simp only [ixD, dcR hat, Pu.keyOf, rdct_some n1, opt_some]
  · rw [gt_old n1]
    unfold rT rlst
    rw [List.map_append, List.map_cons]
    have := mid_at (S := S) (A := l1.map fun p => DO.lst (p.2.map f)) (B := l2.map fun p => DO.lst (p.2.map f)) (o := DO.dct (rdct (S.length + 1) (l1 ++ (s, v) :: l2))) (x := DO.lst (v.map f))
    rwa [List.length_map] at this
theorem rT_sort {f : β → D} {S : Sto} {l : List (Int × List β)} {g : Ev D} {e : En} (hg : g e (rT f S l) = .ok (.ref S.length) (rT f S l)) (hl : l.length < 64) : nSort g e (rT f S l) = .ok (.lst ((sortI (l.map (·.1))).map D.int)) (rT f S l) :=
  nSort_dct hg (dcR top_at) (rdct_keys l _) (by rw [List.length_map]; omega)
theorem rT_dc {f : β → D} {S : Sto} {l : List (Int × List β)} : (dcOf (rT f S l) (.ref S.length)).isSome = true := by
  rw [dcR (show (rT f S l)[S.length]? = _ from top_at)]
  rfl
end
theorem prsK_rows : ∀ rs : List (Int × Int), prsK (rs.map rowD) = some (dz rs)
  | [] => rfl
  | r :: rs => by
    show ((Pu.keyOf (.int r.1)).bind fun q => (prsK (rs.map rowD)).map ((q, .int r.2) :: ·)) = _
    rw [prsK_rows rs]
    rfl
theorem mrg_dz : ∀ (xs h : List (Int × Int)), mrgD (dz h) (dz xs) = dz (xs.foldl (fun h r => putZ h r.1 r.2) h)
  | [], h => rfl
  | x :: xs, h => by
    show mrgD (putD (dz h) (.inl x.1) (.int x.2)) (dz xs) = _
    rw [dz_put, mrg_dz xs, List.foldl_cons]
noncomputable def homeZ (t : List (Int × Int)) : List (Int × Int) := t.foldl (fun h r => putZ h r.1 r.2) []
noncomputable def dOf (t : List (Int × Int)) (k : Int) : Int := (getZ (homeZ t) k).getD 0
theorem dct_rows (t : List (Int × Int)) (S : Sto) : dctP (tpD rowD t) S = .ok (.dct (dz (homeZ t))) S := by
  show (match prsK (t.map rowD) with | some kvs => Res.ok (DO.dct (mrgD [] kvs)) S | none => .bad) = _
  rw [prsK_rows]
  have := mrg_dz t []
  simp only
  rw [show ([] : List (Key × D)) = dz [] from rfl, this]
  rfl
theorem home_mem : ∀ (t h : List (Int × Int)) (k : Int), k ∈ t.map (·.1) ∨ k ∈ h.map (·.1) → k ∈ (t.foldl (fun h r => putZ h r.1 r.2) h).map (·.1)
  | [], h, k, hk => by simpa using hk
  | x :: t, h, k, hk => by
    rw [List.foldl_cons]
    refine home_mem t _ k ?_
    rw [List.map_cons, List.mem_cons] at hk
    rcases hk with (rfl | hk) | hk
    · exact .inr (mem_putZ.mpr (.inl rfl))
    · exact .inl hk
    · exact .inr (mem_putZ.mpr (.inr hk))
theorem home_at {t : List (Int × Int)} {k : Int} (h : k ∈ t.map (·.1)) : getZ (homeZ t) k = some (dOf t k) := by
  obtain ⟨v, hv⟩ := Option.isSome_iff_exists.mp (getZ_some_iff.mpr (home_mem t [] k (.inl h)))
  unfold dOf homeZ
  rw [hv]
  rfl
noncomputable def cellAt (ns : List Int) (k : Nat) : Int := ns[k]?.getD 0
theorem cell_at (ns : List Int) (k : Nat) (S : Sto) : F_law_cell_at [.fls (ns.map D.int), .int k] S = .ok (.int (cellAt ns k)) S := by
  simp only [F_law_cell_at, runD, b_law_cell_at]
  by_cases h : k < ns.length
  · have e : atI (ns.map D.int) (k : Int) = some (.int ns[k]) := atI_nat (by simp [h])
    simp [h, e, cellAt, fin_same]
  · simp [h, cellAt, fin_same]
theorem digit (S : Sto) (k : Nat) (x m : Int) (h : S[k]? = some (.lst [.int x])) (hm : 0 < m) (hl : m.natAbs.log2 < 9000) :
    F_law_digit [.ref k, .int m] S = .ok (.int (x % m)) (S.set k (.lst [.int (x / m)])) := by
  simp only [F_law_digit, runD, b_law_digit]
  have e := stD_lst (v := .int (x / m)) h (show ixN [D.int x].length 0 = some 0 from rfl)
  simp [ixD_ref h, modD_pos hm, fdivD_pos hm hl, e, fin_set0]
/-- the primes -/
noncomputable def prs : List D := [.int 104729, .int 104723, .int 104717, .int 104711, .int 104707, .int 104701, .int 104693]
theorem prs_at (k : Nat) : ∃ p : Int, atI prs ((k : Int) % 7) = some (.int p) ∧ 0 < p := by
  have h : k % 7 < 7 := Nat.mod_lt _ (by decide)
  have e : ((k : Int) % 7) = ((k % 7 : Nat) : Int) := by omega
  rw [e, atI_cast]
  generalize k % 7 = j at h
  match j, h with
  | 0, _ => exact ⟨_, rfl, by decide⟩
  | 1, _ => exact ⟨_, rfl, by decide⟩
  | 2, _ => exact ⟨_, rfl, by decide⟩
  | 3, _ => exact ⟨_, rfl, by decide⟩
  | 4, _ => exact ⟨_, rfl, by decide⟩
  | 5, _ => exact ⟨_, rfl, by decide⟩
  | 6, _ => exact ⟨_, rfl, by decide⟩
theorem big_turn (ns : List Int) (k n : Nat) (hk : k ≤ 1000) (hn : n < 70) (N : Int) (hN : 0 ≤ N) (c : Option D) (S : Sto) : ∃ M : Int, 0 ≤ M ∧
    turn [5, 6] (.nm 5) b_law_big_1 (.int n) [some (.fls (ns.map D.int)), some (.int k), c, some (.tup prs), some (.int N), none, none] S = .next [some (.fls (ns.map D.int)), some (.int k), c, some (.tup prs), some (.int M), none, none] S := by
  obtain ⟨p, hp, hp0⟩ := prs_at n
  have m7 : modD (.int (n : Int)) (.int 7) S = .ok (.int ((n : Int) % 7)) S := modD_pos (by decide)
  have a7 : ((k : Int) + (n : Int) % 7) = ((k + n % 7 : Nat) : Int) := by omega
  generalize hc0 : cellAt ns (k + n % 7) = c0
  have m18 : modD (.int c0) (.int 1000000000000000000) S = .ok (.int (c0 % 1000000000000000000)) S := modD_pos (by decide)
  have k1 : FitMul 11 n := .left (by decide) (by decide)
  have k2 : FitMul 13 k := .left (by decide) (by decide)
  have k3 : FitMul 17 n := .left (by decide) (by decide)
  generalize ho : c0 % 1000000000000000000 + 11 * (n : Int) + 13 * (k : Int) + 3 = o
  have hb : 0 ≤ o ∧ o < 2 ^ 62 := by
    have h1 : 0 ≤ c0 % 1000000000000000000 := Int.emod_nonneg _ (by decide)
    have h2 : c0 % 1000000000000000000 < 1000000000000000000 := Int.emod_lt_of_pos _ (by decide)
    omega
  have k4 : FitMul o o := .left (by omega) (by omega)
  have hoo : o * o < 2 ^ 62 * 2 ^ 62 := mul_lt hb.1 hb.2 hb.1 hb.2
  have hoo0 : 0 ≤ o * o := Int.mul_nonneg hb.1 hb.1
  generalize ho2 : o * o + 17 * (n : Int) + 1 = o2
  have k5 : PowOk o2 3 := .of (b := 126) (by omega) (by decide) (by decide)
  have mp : modD (.int (o2 ^ Int.toNat 3)) (.int p) S = .ok (.int (o2 ^ Int.toNat 3 % p)) S := modD_pos hp0
  have k6 : FitMul N 8191 := .right (by decide) (by decide)
  have k7 : FitMul (o2 ^ Int.toNat 3 % p) ((n : Int) + 5) := .right (by omega) (by omega)
  have ml : modD (.int (o2 ^ Int.toNat 3 % p * (n + 5))) (.int 8191) S = .ok (.int (o2 ^ Int.toNat 3 % p * (n + 5) % 8191)) S := modD_pos (by decide)
  refine ⟨N * 8191 + o2 ^ Int.toNat 3 % p * (n + 5) % 8191, ?_, ?_⟩
  · have h1 : 0 ≤ o2 ^ Int.toNat 3 % p * (n + 5) % 8191 := Int.emod_nonneg _ (by decide)
    omega
  · simp only [turn, b_law_big_1, bindT_nm, List.set, ap_Seq, ap_Set, ap_2, ap_Fn, ap_Args, ap_Args0, ap_Var0, ap_VarS, ap_C, Res.bind_ok, m7, addD_int, a7, cell_at, hc0, p10_18, m18, mulD_ok k1, mulD_ok k2, ho, Res.stm_ok, SRes.seq_next,
      mulD_ok k4, mulD_ok k3, ho2, powD_ok k5, ixD_tup, hp, opt_some, mp, mulD_ok k6, mulD_ok k7, ml]
    rfl
theorem big (ns : List Int) (k : Nat) (hk : k ≤ 1000) (S : Sto) : ∃ N : Int, 0 ≤ N ∧ F_law_big [.fls (ns.map D.int), .int k] S = .ok (.int N) S := by
  simp only [F_law_big, runD, b_law_big]
  simp only [ap_Seq, ap_Set, ap_Fn, ap_Args, ap_Args0, startE_a2, List.replicate, ap_Var0, ap_VarS, Res.bind_ok, cell_at, Res.stm_ok, SRes.seq_next, List.set, ap_If, ap_TB, ap_2, ap_C, p10_18, intD_int, if_true, toB_bl]
  by_cases hc : (1000000000000000000 : Int) ≤ cellAt ns k
  · refine ⟨cellAt ns k, by omega, ?_⟩
    simp [hc, pw18, fin_same]
  · simp only [hc, decide_false, Bool.false_eq_true, if_false, ap_Next, SRes.seq_next, ap_Tup, ap_Args, ap_Args0, Res.bind_ok, ap_C, ap_Set, Res.stm_ok, List.set, ap_Seq, ap_Fgt, ap_For, ap_iR1, srcR1_ap, show Rg62 70 from by decide, if_true, Src.items_tmp]
    obtain ⟨e', S', q, hI⟩ := for_inv0 (dead := [5, 6]) (tg := .nm 5) (body := b_law_big_1) (ys := rngD 0 70) (xs := rngD 0 70) (S := S) (e := [some (.fls (ns.map D.int)), some (.int k), some (.int (cellAt ns k)), some (.tup prs), some (.int 0), none, none])
      (fun n e S' => S' = S ∧ ∃ N : Int, 0 ≤ N ∧ e = [some (.fls (ns.map D.int)), some (.int k), some (.int (cellAt ns k)), some (.tup prs), some (.int N), none, none]) ⟨rfl, 0, Int.le_refl _, rfl⟩ (fun n e S' x hx ⟨eS, N, hN, ee⟩ => by
        subst eS ee
        obtain ⟨ex, hlt⟩ := rngD_get hx
        subst ex
        rw [Int.zero_add]
        obtain ⟨M, hM, q⟩ := big_turn ns k n hk (by omega) N hN (some (.int (cellAt ns k))) S'
        exact ⟨_, _, q, rfl, M, hM, rfl⟩)
    obtain ⟨rfl, N, hN, rfl⟩ := hI
    refine ⟨N, hN, ?_⟩
    have q : forD [5, 6] (.nm 5) (.tmp (rngD 0 70)) b_law_big_1 (rngD 0 70) [some (.fls (ns.map D.int)), some (.int k), some (.int (cellAt ns k)), some (.tup [.int 104729, .int 104723, .int 104717, .int 104711, .int 104707, .int 104701, .int 104693]), some (.int 0), none, none] S' = _ := q
    simp [hc, pw18, q, fin_same, srcR1_ap, show Rg62 70 from by decide]
theorem dig {S : Sto} {k : Nat} {x m : Int} (h : k < S.length) (hm : 0 < m) (hl : m.natAbs.log2 < 9000) : F_law_digit [.ref k, .int m] (Dg S k x) = .ok (.int (x % m)) (Dg S k (x / m)) := by
  rw [digit _ k x m (Dg_at h) hm hl, Dg_set]
noncomputable def tabD (t : Int × List (Int × Int)) : D := .tup [.int t.1, tpD rowD t.2]
noncomputable def lts (rs : List (Int × Int)) : List Int := rs.flatMap fun r => List.replicate r.2.toNat r.1
noncomputable def cst (x : Int) : List (Int × Int) → List (Int × Int)
  | [] => [(x, 1)]
  | r :: t => if r.1 = x then (r.1, r.2 + 1) :: t else (x, 1) :: r :: t
theorem cst_nil {x : Int} : cst x [] = [(x, 1)] := rfl
theorem cst_cons {x : Int} {r : Int × Int} {t : List (Int × Int)} : cst x (r :: t) = if r.1 = x then (r.1, r.2 + 1) :: t else (x, 1) :: r :: t := rfl
noncomputable def rle : List Int → List (Int × Int)
  | [] => []
  | x :: xs => cst x (rle xs)
noncomputable def Hf (rs : List (Int × Int)) : Prop := rle (lts rs) = rs
theorem lts_cons (r : Int × Int) (rs : List (Int × Int)) : lts (r :: rs) = List.replicate r.2.toNat r.1 ++ lts rs := by simp [lts]
theorem lts_app (xs ys : List (Int × Int)) : lts (xs ++ ys) = lts xs ++ lts ys := by simp [lts]
theorem Hf.uniq {xs ys : List (Int × Int)} (h : Hf xs) (h' : Hf ys) (e : lts xs = lts ys) : xs = ys := by
  rw [← h, ← h', e]
theorem cst_pos {x : Int} {f : List (Int × Int)} (h : ∀ q ∈ f, 0 < q.2) : ∀ q ∈ cst x f, 0 < q.2 := by
  cases f with
  | nil =>
    intro q hq
    rw [cst_nil, List.mem_singleton] at hq
    subst hq
    show (0 : Int) < 1
    decide
  | cons r t =>
    intro q hq
    rw [cst_cons] at hq
    split at hq
    · rcases List.mem_cons.mp hq with rfl | hq
      · have := h r List.mem_cons_self
        show 0 < r.2 + 1
        omega
      · exact h q (List.mem_cons_of_mem _ hq)
    · rcases List.mem_cons.mp hq with rfl | hq
      · show (0 : Int) < 1
        decide
      · exact h q hq
theorem rle_pos : ∀ l : List Int, ∀ q ∈ rle l, 0 < q.2
  | [] => fun q hq => absurd hq List.not_mem_nil
  | x :: xs => cst_pos (rle_pos xs)
theorem Hf.pos {xs : List (Int × Int)} (h : Hf xs) : ∀ q ∈ xs, 0 < q.2 := by
  intro q hq
  rw [← h] at hq
  exact rle_pos _ q hq
noncomputable def mgS (f : List (Int × Int)) (r : Int × Int) : List (Int × Int) := match f.getLast? with
  | some l => if l.1 = r.1 then f.dropLast ++ [(l.1, l.2 + r.2)] else f ++ [r]
  | none => f ++ [r]
theorem mgS_nil (r : Int × Int) : mgS [] r = [r] := by simp [mgS]
theorem mgS_one (a r : Int × Int) : mgS [a] r = if a.1 = r.1 then [(a.1, a.2 + r.2)] else [a, r] := by simp [mgS]
theorem mgS_cons (a b : Int × Int) (t : List (Int × Int)) (r : Int × Int) : mgS (a :: b :: t) r = a :: mgS (b :: t) r := by
  unfold mgS
  rw [List.getLast?_cons_cons]
  cases (b :: t).getLast? with
  | none => rfl
  | some l =>
    simp only
    split
    · simp
    · rfl
theorem cst_mgS (x : Int) (f : List (Int × Int)) (r : Int × Int) : cst x (mgS f r) = mgS (cst x f) r := by
  match f with
  | [] =>
    rw [mgS_nil]
    simp only [cst_nil, cst_cons]
    rw [mgS_one]
    by_cases h : r.1 = x
    · rw [if_pos h, if_pos h.symm, h, Int.add_comm]
    · rw [if_neg h, if_neg fun e => h e.symm]
  | [a] =>
    rw [mgS_one]
    by_cases h : a.1 = r.1
    · rw [if_pos h]
      simp only [cst_nil, cst_cons]
      by_cases h2 : a.1 = x
      · rw [if_pos h2, if_pos h2, mgS_one, if_pos h]
        simp only
        rw [Int.add_right_comm]
      · rw [if_neg h2, if_neg h2, mgS_cons, mgS_one, if_pos h]
    · rw [if_neg h]
      simp only [cst_nil, cst_cons]
      by_cases h2 : a.1 = x
      · rw [if_pos h2, if_pos h2, mgS_one, if_neg h]
      · rw [if_neg h2, if_neg h2, mgS_cons, mgS_one, if_neg h]
  | a :: b :: t =>
    rw [mgS_cons]
    simp only [cst_nil, cst_cons]
    by_cases h2 : a.1 = x
    · rw [if_pos h2, if_pos h2, mgS_cons]
    · rw [if_neg h2, if_neg h2, mgS_cons, mgS_cons]
theorem rle_rep (k : Int) : ∀ n : Nat, rle (List.replicate (n + 1) k) = [(k, (n : Int) + 1)]
  | 0 => rfl
  | n + 1 => by
    rw [List.replicate_succ]
    show cst k (rle (List.replicate (n + 1) k)) = _
    rw [rle_rep k n]
    simp only [cst_cons, if_true]
    simp
theorem rle_snoc (l : List Int) (k : Int) (n : Nat) : rle (l ++ List.replicate (n + 1) k) = mgS (rle l) (k, (n : Int) + 1) := by
  induction l with
  | nil => rw [List.nil_append, rle_rep]; exact (mgS_nil _).symm
  | cons x xs ih =>
    show cst x (rle (xs ++ List.replicate (n + 1) k)) = mgS (cst x (rle xs)) _
    rw [ih, cst_mgS]
theorem lts_mgS {f : List (Int × Int)} {r : Int × Int} (h : ∀ q ∈ f, 0 < q.2) (hr : 0 < r.2) : lts (mgS f r) = lts f ++ List.replicate r.2.toNat r.1 := by
  unfold mgS
  cases hl : f.getLast? with
  | none => simp [lts]
  | some l =>
    simp only
    split
    · rename_i e
      have ef : f = f.dropLast ++ [l] := by
        obtain ⟨g, hg⟩ := List.getLast?_eq_some_iff.mp hl
        rw [hg]; simp
      have hp := h l (by rw [ef]; simp)
      conv => rhs; rw [ef]
      rw [lts_app, lts_app]
      simp only [lts, List.flatMap_cons, List.flatMap_nil, List.append_nil, List.append_assoc]
      congr 1
      rw [← e, List.replicate_append_replicate]
      congr 1
      omega
    · simp [lts]
theorem Hf.nil : Hf [] := rfl
theorem Hf.mg {f : List (Int × Int)} {r : Int × Int} (h : Hf f) (hr : 0 < r.2) : Hf (mgS f r) := by
  unfold Hf
  rw [lts_mgS h.pos hr]
  obtain ⟨k, v⟩ := r
  obtain ⟨n, e⟩ : ∃ n : Nat, v.toNat = n + 1 := ⟨v.toNat - 1, by simp only at hr; omega⟩
  simp only
  rw [e, rle_snoc, h]
  congr 2
  simp only at hr
  omega
theorem mg_fold (xs : List (Int × Int)) (hx : ∀ q ∈ xs, 0 < q.2) : ∀ f, Hf f → Hf (xs.foldl mgS f) ∧ lts (xs.foldl mgS f) = lts f ++ lts xs := by
  induction xs with
  | nil => intro f h; exact ⟨h, by simp [lts]⟩
  | cons x xs ih =>
    intro f h
    have hp := hx x List.mem_cons_self
    obtain ⟨h1, h2⟩ := ih (fun q hq => hx q (List.mem_cons_of_mem _ hq)) (mgS f x) (h.mg hp)
    refine ⟨h1, ?_⟩
    rw [List.foldl_cons, h2, lts_mgS h.pos hp, lts_cons, List.append_assoc]
theorem mem_lts {x : Int} {rs : List (Int × Int)} (h : x ∈ lts rs) : x ∈ rs.map (·.1) := by
  obtain ⟨r, hr, hx⟩ := List.mem_flatMap.mp h
  rw [List.eq_of_mem_replicate hx]
  exact List.mem_map_of_mem hr
theorem lts_mem {rs : List (Int × Int)} (h : ∀ q ∈ rs, 0 < q.2) {r : Int × Int} (hr : r ∈ rs) : r.1 ∈ lts rs := by
  refine List.mem_flatMap.mpr ⟨r, hr, List.mem_replicate.mpr ⟨?_, rfl⟩⟩
  have := h r hr
  omega
theorem lts_filter (p : Int → Bool) (rs : List (Int × Int)) : (lts rs).filter p = lts (rs.filter fun r => p r.1) := by
  induction rs with
  | nil => rfl
  | cons r rs ih =>
    rw [lts_cons, List.filter_append, ih, List.filter_cons]
    cases hp : p r.1 with
    | true => rw [if_pos rfl, lts_cons, List.filter_replicate_of_pos hp]
    | false => rw [if_neg (by decide), List.filter_replicate_of_neg (by rw [hp]; decide), List.nil_append]
theorem lts_flat {α : Type} (f : α → List (Int × Int)) (xs : List α) : lts (xs.flatMap f) = xs.flatMap fun x => lts (f x) := by
  simp only [lts, List.flatMap_assoc]
noncomputable def spl (d : Int → Int) (l : List Int) (ss : List Int) : List Int := ss.flatMap fun s => l.filter fun k => decide (d k = s)
/-- what heap makes -/
noncomputable def hpStep (f : List (Int × Int)) (r : Int × Int) : List (Int × Int) := if 0 < r.2 then (match f.getLast? with
  | some l => if l.1 = r.1 then f.dropLast ++ [(r.1, l.2 + r.2)] else f ++ [r]
  | none => f ++ [r]) else f
noncomputable def hp (rs : List (Int × Int)) : List (Int × Int) := rs.foldl hpStep []
theorem heap_turn (S : Sto) (c : D) (f : List (Int × Int)) (r : Int × Int) (hn : f.length < 1048576) : turn [2, 3] (.tp [.nm 2, .nm 3]) b_law_heap_1 (rowD r) [some c, some (.ref S.length), none, none] (S ++ [.lst (f.map rowD)]) = .next [some c, some (.ref S.length), none, none] (S ++ [.lst ((hpStep f r).map rowD)]) := by
  obtain ⟨a, b⟩ := r
  have hat : (S ++ [DO.lst (f.map rowD)])[S.length]? = some (.lst (f.map rowD)) := last_at
  have hnil := neR_nil rpRow (by decide) hat
  have hap : appD (.ref S.length) [.tup [.int a, .int b]] (S ++ [DO.lst (f.map rowD)]) = .ok .non (S ++ [DO.lst ((f ++ [(a, b)]).map rowD)]) := by
    rw [appD_ref hat (sz (by simpa using hn)), set_last, List.map_append]
    rfl
  have hb : bindT (.tp [.nm 2, .nm 3]) (rowD (a, b)) [some c, some (.ref S.length), none, none] = some [some c, some (.ref S.length), some (.int a), some (.int b)] := rfl
  simp only [turn, hb, b_law_heap_1, goS, goI, hnil, ixD_ref hat, atI_m1, List.getLast?_map]
  by_cases h0 : b > 0
  · have h0' : 0 < b := h0
    simp only [h0, decide_true, goS, hnil]
    cases hl : f.getLast? with
    | none =>
      have : f = [] := by simpa using hl
      subst this
      simp only [hnil, List.isEmpty_nil, Bool.not_true, goS, goI, h0, decide_true, isT_ref hat, hap, hpStep, h0', List.getLast?_nil]
    | some l =>
      have hne : f.isEmpty = false := by cases f with | nil => cases hl | cons => rfl
      obtain ⟨l1, l2⟩ := l
      simp only [hnil, hne, Bool.not_false, goS, goI, ixD_ref hat, atI_m1, List.getLast?_map, hl, Option.map_some, show rowD (l1, l2) = D.tup [.int l1, .int l2] from rfl, atI_0, List.getElem?_cons_zero]
      by_cases h1 : l1 = a
      · have hs := stD_lst (v := .tup [.int a, .int (l2 + b)]) (j := -1) hat (ixN_m1 (by cases f with | nil => cases hl | cons => simp))
        have hs' : (f.map rowD).set ((f.map rowD).length - 1) (.tup [.int a, .int (l2 + b)]) = (f.dropLast ++ [(a, l2 + b)]).map rowD := by
          rw [set_end (l := rowD (l1, l2)) (by simp [hl]), List.map_append, List.map_dropLast]
          rfl
        rw [hs', set_last] at hs
        simp only [h1, decide_true, goS, goI, ixD_ref hat, atI_m1, List.getLast?_map, hl, Option.map_some, show rowD (a, l2) = D.tup [.int a, .int l2] from rfl, atI_1, List.getElem?_cons_zero, List.getElem?_cons_succ, hs, hpStep, h0', if_true]
      · simp only [h1, decide_false, goS, goI, if_true, h0, decide_true, isT_ref hat, hap, hpStep, h0', hl, if_false]
  · have h0' : ¬ 0 < b := h0
    simp only [h0, decide_false, goS, goI, if_true, hpStep, h0', if_false]
theorem hpStep_len (f : List (Int × Int)) (r : Int × Int) : (hpStep f r).length ≤ f.length + 1 := by
  unfold hpStep
  split
  · split
    · split
      · simp
      · simp
    · simp
  · omega
theorem heap_loop (S : Sto) (c : D) (src : Src) (ok : ∀ f, src.ok (S ++ [.lst f])) : ∀ (xs f : List (Int × Int)), f.length + xs.length < 1000000 → forD [2, 3] (.tp [.nm 2, .nm 3]) src b_law_heap_1 (xs.map rowD) [some c, some (.ref S.length), none, none] (S ++ [.lst (f.map rowD)]) = .next [some c, some (.ref S.length), none, none] (S ++ [.lst ((xs.foldl hpStep f).map rowD)])
  | [], f, _ => forD_nil (ok _)
  | x :: xs, f, h => by
    rw [List.length_cons] at h
    rw [List.map_cons, forD_cons (ok _), heap_turn S _ f x (by omega)]
    exact heap_loop S c src ok xs _ (by have := hpStep_len f x; omega)
theorem lawheapS (S : Sto) (d : D) (rs : List (Int × Int)) (hd : isSq d (rs.map rowD)) (hn : rs.length < 1000000) : F_law_heap [d] S = .ok (tpD rowD (hp rs)) S := by
  simp only [F_law_heap, runD, b_law_heap, ap_Seq, ap_Set, ap_New, ap_nLst, ap_Args0, startE_a1, List.replicate, Res.bind_ok, Res.stm_ok, SRes.seq_next, List.set, ap_Fgt]
  have q := heap_loop S d (.tmp (rs.map rowD)) (fun _ => trivial) rs [] (by simpa using hn)
  rw [List.map_nil] at q
  rw [forS (xs := rs.map rowD) rfl hd, q]
  have hat : (S ++ [DO.lst ((hp rs).map rowD)])[S.length]? = some (.lst ((hp rs).map rowD)) := last_at
  simp only [goS, show List.foldl hpStep [] rs = hp rs from rfl, tupD_ref hat]
  exact fin_app (rpRow.tp.gnd (hp rs))
theorem lawheap (S : Sto) (rs : List (Int × Int)) (hn : rs.length < 1000000) : F_law_heap [tpD rowD rs] S = .ok (tpD rowD (hp rs)) S := lawheapS S _ rs (.inl rfl) hn
theorem lawheapR (S : Sto) (k : Nat) (rs : List (Int × Int)) (h : S[k]? = some (.lst (rs.map rowD))) (hn : rs.length < 1000000) : F_law_heap [.ref k] S = .ok (tpD rowD (hp rs)) S := by
  have hk : k < S.length := (List.getElem?_eq_some_iff.mp h).1
  simp only [F_law_heap, runD, b_law_heap, ap_Seq, ap_Set, ap_New, ap_nLst, ap_Args0, startE_a1, List.replicate, Res.bind_ok, Res.stm_ok, SRes.seq_next, List.set, ap_Fgt]
  have q := heap_loop S (.ref k) (.st k (rs.map rowD)) (fun f => by
    show (S ++ [.lst f])[k]? = some _
    rw [List.getElem?_append_left hk]
    exact h) rs [] (by simpa using hn)
  rw [List.map_nil] at q
  rw [forS_ref (xs := rs.map rowD) rfl (by rw [List.getElem?_append_left hk]; exact h), q]
  have hat : (S ++ [DO.lst ((hp rs).map rowD)])[S.length]? = some (.lst ((hp rs).map rowD)) := last_at
  simp only [goS, show List.foldl hpStep [] rs = hp rs from rfl, tupD_ref hat]
  exact fin_app (rpRow.tp.gnd (hp rs))
theorem hp_len (rs : List (Int × Int)) : (hp rs).length ≤ rs.length := by
  have : ∀ (xs f : List (Int × Int)), (xs.foldl hpStep f).length ≤ f.length + xs.length := by
    intro xs
    induction xs with
    | nil => intro f; simp
    | cons x xs ih =>
      intro f
      have h1 := ih (hpStep f x)
      have h2 := hpStep_len f x
      simp only [List.foldl_cons, List.length_cons]
      omega
  have := this rs []
  simp only [List.length_nil, Nat.zero_add] at this
  exact this
theorem hpStep_mg (f : List (Int × Int)) (r : Int × Int) (h : 0 < r.2) : hpStep f r = mgS f r := by
  unfold hpStep mgS
  rw [if_pos h]
  cases f.getLast? with
  | none => rfl
  | some l =>
    simp only
    by_cases e : l.1 = r.1
    · rw [if_pos e, if_pos e, e]
    · rw [if_neg e, if_neg e]
theorem lts_nonpos {r : Int × Int} (h : ¬ 0 < r.2) (rs : List (Int × Int)) : lts (r :: rs) = lts rs := by
  rw [lts_cons, show r.2.toNat = 0 by omega]
  rfl
theorem hp_facts (rs : List (Int × Int)) : Hf (hp rs) ∧ lts (hp rs) = lts rs := by
  have : ∀ (xs f : List (Int × Int)), Hf f → Hf (xs.foldl hpStep f) ∧ lts (xs.foldl hpStep f) = lts f ++ lts xs := by
    intro xs
    induction xs with
    | nil => intro f h; exact ⟨h, by simp [lts]⟩
    | cons x xs ih =>
      intro f h
      by_cases hx : 0 < x.2
      · rw [List.foldl_cons, hpStep_mg f x hx]
        obtain ⟨h1, h2⟩ := ih (mgS f x) (h.mg hx)
        exact ⟨h1, by rw [h2, lts_mgS h.pos hx, lts_cons, List.append_assoc]⟩
      · have e : hpStep f x = f := if_neg hx
        rw [List.foldl_cons, e, lts_nonpos hx]
        exact ih f h
  exact this rs [] Hf.nil
theorem heap (S : Sto) (rs : List (Int × Int)) (hn : rs.length < 1000000) : Fheap [tpD rowD rs] S = .ok (tpD rowD (hp rs)) S := lawheap S rs hn
theorem joined (S : Sto) (xs ys : List (Int × Int)) (h : xs.length + ys.length < 1000000) : Fjoined [tpD rowD xs, tpD rowD ys] S = .ok (tpD rowD (hp (xs ++ ys))) S := by
  simp only [Fjoined, runD, bjoined, go0, goS, addT h, heap S (xs ++ ys) (by rw [List.length_append]; omega)]
  exact fin_same (rpRow.tp.gnd _)
noncomputable def liS (d : Int → Int) (l : List (Int × List (Int × Int))) (r : Int × Int) : List (Int × List (Int × Int)) := pt l (d r.1) ((gt l (d r.1)).getD [] ++ [r])
theorem lie_keys (d : Int → Int) : ∀ (xs : List (Int × Int)) (l : List (Int × List (Int × Int))), (∀ s, s ∈ (xs.foldl (liS d) l).map (·.1) ↔ s ∈ l.map (·.1) ∨ ∃ r ∈ xs, d r.1 = s) ∧ ((l.map (·.1)).Nodup → ((xs.foldl (liS d) l).map (·.1)).Nodup) ∧ (xs.foldl (liS d) l).length ≤ l.length + xs.length
  | [], l => ⟨fun s => by simp, fun h => h, by simp⟩
  | x :: xs, l => by
    obtain ⟨h1, h2, h3⟩ := lie_keys d xs (liS d l x)
    refine ⟨fun s => ?_, fun h => h2 (pt_nodup h _ _), ?_⟩
    · rw [List.foldl_cons, h1]
      unfold liS
      rw [mem_pt]
      constructor
      · rintro ((a | a) | ⟨r, hr, e⟩)
        · exact .inr ⟨x, List.mem_cons_self, a.symm⟩
        · exact .inl a
        · exact .inr ⟨r, List.mem_cons_of_mem _ hr, e⟩
      · rintro (a | ⟨r, hr, e⟩)
        · exact .inl (.inr a)
        · rcases List.mem_cons.mp hr with hr | hr
          · subst hr
            exact .inl (.inl e.symm)
          · exact .inr ⟨r, hr, e⟩
    · have := pt_len l (d x.1) ((gt l (d x.1)).getD [] ++ [x])
      rw [List.foldl_cons, List.length_cons]
      unfold liS at h3 ⊢
      omega
/-- the spots, rising -/
noncomputable def spots (d : Int → Int) (rs : List (Int × Int)) : List Int := sortI ((rs.foldl (liS d) []).map (·.1))
theorem spots_pw (d : Int → Int) (rs : List (Int × Int)) : (spots d rs).Pairwise (· < ·) := by
  have h1 := pw_sortI ((rs.foldl (liS d) []).map (·.1))
  have h2 : (spots d rs).Nodup := (perm_sortI _).nodup_iff.mpr ((lie_keys d rs []).2.1 (by simp))
  exact (h1.and h2).imp fun {a b} h => by
    have := h.1
    have := h.2
    omega
theorem mem_spots {d : Int → Int} {rs : List (Int × Int)} {s : Int} : s ∈ spots d rs ↔ ∃ r ∈ rs, d r.1 = s := by
  unfold spots
  rw [(perm_sortI _).mem_iff, (lie_keys d rs []).1]
  simp
noncomputable def thr (d : Int → Int) (rs : List (Int × Int)) : List (Int × Int) := ((spots d rs).flatMap fun s => rs.filter fun r => decide (d r.1 = s)).foldl mgS []
theorem mgS_len (f : List (Int × Int)) (r : Int × Int) : (mgS f r).length ≤ f.length + 1 := by
  unfold mgS
  split
  · split
    · simp
    · simp
  · simp
theorem mgf_len : ∀ (xs f : List (Int × Int)), (xs.foldl mgS f).length ≤ f.length + xs.length
  | [], f => by simp
  | x :: xs, f => by
    have h1 := mgf_len xs (mgS f x)
    have h2 := mgS_len f x
    rw [List.foldl_cons, List.length_cons]
    omega
theorem flat_len {α : Type} (d : α → Int) : ∀ (ss : List Int) (rs : List α), ss.Nodup → (ss.flatMap fun s => rs.filter fun r => decide (d r = s)).length ≤ rs.length
  | [], rs, _ => by simp
  | s :: ss, rs, h => by
    rw [List.nodup_cons] at h
    rw [List.flatMap_cons, List.length_append]
    have ih := flat_len d ss (rs.filter fun r => !decide (d r = s)) h.2
    have e : (ss.flatMap fun t => (rs.filter fun r => !decide (d r = s)).filter fun r => decide (d r = t)) = ss.flatMap fun t => rs.filter fun r => decide (d r = t) := by
      rw [List.flatMap_def, List.flatMap_def]
      congr 1
      refine List.map_congr_left fun t ht => ?_
      rw [List.filter_filter]
      congr 1
      funext r
      by_cases e : d r = t
      · have : ¬ d r = s := fun z => h.1 (by rw [← z, e]; exact ht)
        simp [e, this]
        rw [← e]
        exact this
      · simp [e]
    rw [e] at ih
    have l2 : (rs.filter fun r => decide (d r = s)).length + (rs.filter fun r => !decide (d r = s)).length = rs.length := by
      clear ih e
      induction rs with
      | nil => rfl
      | cons r rs ih =>
        rw [List.filter_cons, List.filter_cons]
        by_cases e : d r = s
        · simp only [e, decide_true, if_true, Bool.not_true, Bool.false_eq_true, if_false, List.length_cons]
          omega
        · simp only [e, decide_false, Bool.not_false, if_true, Bool.false_eq_true, if_false, List.length_cons]
          omega
    omega
theorem thr_len (d : Int → Int) (rs : List (Int × Int)) : (thr d rs).length ≤ rs.length := by
  have h1 := mgf_len ((spots d rs).flatMap fun s => rs.filter fun r => decide (d r.1 = s)) []
  have h2 := flat_len (fun r : Int × Int => d r.1) (spots d rs) rs ((spots_pw d rs).imp fun {a b} h => by omega)
  unfold thr
  simp only [List.length_nil, Nat.zero_add] at h1
  omega
theorem thr_facts (d : Int → Int) {rs : List (Int × Int)} (hp : ∀ q ∈ rs, 0 < q.2) : Hf (thr d rs) ∧ lts (thr d rs) = spl d (lts rs) (spots d rs) := by
  obtain ⟨h1, h2⟩ := mg_fold ((spots d rs).flatMap fun s => rs.filter fun r => decide (d r.1 = s)) (fun q hq => by
    obtain ⟨s, _, h⟩ := List.mem_flatMap.mp hq
    exact hp q (List.mem_filter.mp h).1) [] Hf.nil
  refine ⟨h1, ?_⟩
  unfold thr
  rw [h2, lts_flat]
  show [] ++ _ = _
  rw [List.nil_append]
  unfold spl
  rw [List.flatMap_def, List.flatMap_def]
  congr 1
  refine List.map_congr_left fun s _ => ?_
  rw [lts_filter]
theorem thr_spots (d : Int → Int) {rs : List (Int × Int)} : ∀ k ∈ lts rs, d k ∈ spots d rs := fun k hk => by
  obtain ⟨r, hr, e⟩ := List.mem_map.mp (mem_lts hk)
  exact mem_spots.mpr ⟨r, hr, by rw [e]⟩
theorem prt_turn (S : Sto) (c t : D) (hd : List (Int × Int)) (d : Int → Int) (l : List (Int × List (Int × Int))) (hn : (l.map (·.1)).Nodup) (r : Int × Int) (hr : getZ hd r.1 = some (d r.1)) (h1 : l.length < 100000) (h2 : ((gt l (d r.1)).getD []).length < 100000) : turn [4, 5] (.tp [.nm 4, .nm 5]) bparted_1 (rowD r) [some c, some t, some (.dct (dz hd)), some (.ref S.length), none, none, none] (rT rowD S l) = .next [some c, some t, some (.dct (dz hd)), some (.ref S.length), none, none, none] (rT rowD S (liG (fun r => d r.1) l r)) := by
  obtain ⟨m, T, q1, q2, q3⟩ := sd_step (f := rowD) S l hn (d r.1) r h1 h2
  have hb : bindT (.tp [.nm 4, .nm 5]) (rowD r) [some c, some t, some (.dct (dz hd)), some (.ref S.length), none, none, none] = some [some c, some t, some (.dct (dz hd)), some (.ref S.length), some (.int r.1), some (.int r.2), none] := rfl
  have hin : inD true (.int r.1) (.dct (dz hd)) (rT rowD S l) = .ok (.bl false) (rT rowD S l) := by
    rw [inD_dct (dcOf_dct), hr]
    rfl
  have hix : ixD (.dct (dz hd)) (.int r.1) (rT rowD S l) = .ok (.int (d r.1)) (rT rowD S l) := ixD_dct dcOf_dct hr
  have q3' : appD (.ref m) [.tup [.int r.1, .int r.2]] T = .ok .non (rT rowD S (liG (fun r => d r.1) l r)) := q3
  simp only [turn, hb]
  simp only [bparted_1, goS, hin, ap_Sd, rT_dc, if_true, hix, q1, q2, q3']
theorem prt_loop (S : Sto) (c t : D) (hd : List (Int × Int)) (d : Int → Int) : ∀ (xs ys : List (Int × Int)) (l : List (Int × List (Int × Int))), (l.map (·.1)).Nodup → (∀ r ∈ xs, getZ hd r.1 = some (d r.1)) → l.length + xs.length < 1000 → (∀ s, ((gt l s).getD []).length + xs.length < 1000) →
    forD [4, 5] (.tp [.nm 4, .nm 5]) (.tmp (ys.map rowD)) bparted_1 (xs.map rowD) [some c, some t, some (.dct (dz hd)), some (.ref S.length), none, none, none] (rT rowD S l) = .next [some c, some t, some (.dct (dz hd)), some (.ref S.length), none, none, none] (rT rowD S (xs.foldl (liG fun r => d r.1) l))
  | [], ys, l, _, _, _, _ => forD_nil trivial
  | x :: xs, ys, l, hn, hx, hl, hs => by
    rw [List.length_cons] at hl
    have hs0 := hs (d x.1)
    rw [List.length_cons] at hs0
    rw [List.map_cons, forD_cons (src := .tmp _) trivial, prt_turn S c t hd d l hn x (hx x List.mem_cons_self) (by omega) (by omega)]
    refine prt_loop S c t hd d xs ys _ (pt_nodup hn _ _) (fun r hr => hx r (List.mem_cons_of_mem _ hr)) ?_ fun s => ?_
    · have := pt_len l (d x.1) ((gt l (d x.1)).getD [] ++ [x])
      show (pt l (d x.1) ((gt l (d x.1)).getD [] ++ [x])).length + xs.length < 1000
      omega
    · have := hs s
      rw [List.length_cons] at this
      exact lig_len (fun r : Int × Int => d r.1) l x s this hs0
theorem heapR (S : Sto) (k : Nat) (rs : List (Int × Int)) (h : S[k]? = some (.lst (rs.map rowD))) (hn : rs.length < 1000000) : Fheap [.ref k] S = .ok (tpD rowD (hp rs)) S := lawheapR S k rs h hn
theorem parted (S : Sto) (rs t : List (Int × Int)) (many : Int) (hl : rs.length < 64) (hm : ∀ r ∈ rs, r.1 ∈ t.map (·.1)) : Fparted [tpD rowD rs, tabD (many, t)] S = .ok (.lst ((spots (dOf t) rs).map fun s => tpD rowD (hp (rs.filter fun r => decide (dOf t r.1 = s))))) S := by
  have q := prt_loop S (tpD rowD rs) (tabD (many, t)) (homeZ t) (dOf t) rs rs [] (by simp) (fun r hr => home_at (hm r hr)) (by rw [List.length_nil]; omega) (fun s => by rw [show (gt ([] : List (Int × List (Int × Int))) s).getD [] = [] from rfl, List.length_nil]; omega)
  have q' : forD [4, 5] (.tp [.nm 4, .nm 5]) (.tmp (rs.map rowD)) bparted_1 (rs.map rowD) [some (tpD rowD rs), some (tabD (many, t)), some (.dct (dz (homeZ t))), some (.ref S.length), none, none, none] (S ++ [.dct []]) = .next [some (tpD rowD rs), some (tabD (many, t)), some (.dct (dz (homeZ t))), some (.ref S.length), none, none, none] (rT rowD S (rs.foldl (liG fun r => dOf t r.1) [])) := q
  obtain ⟨k1, k2, k3⟩ := lig_keys (fun r : Int × Int => dOf t r.1) rs []
  have eg : ∀ s, (gt (rs.foldl (liG fun r => dOf t r.1) []) s).getD [] = rs.filter fun r => decide (dOf t r.1 = s) := fun s => by
    have := lig_get (fun r : Int × Int => dOf t r.1) s rs []
    simpa [gt] using this
  have hnd := k2 (by simp)
  have esp : sortI ((rs.foldl (liG fun r => dOf t r.1) []).map (·.1)) = spots (dOf t) rs := rfl
  have hms : ∀ s ∈ spots (dOf t) rs, s ∈ (rs.foldl (liG fun r => dOf t r.1) []).map (·.1) := fun s hs => (perm_sortI _).mem_iff.mp hs
  generalize rs.foldl (liG fun r => dOf t r.1) [] = l at q' k3 eg hnd esp hms
  have hll : l.length < 64 := by simpa using Nat.lt_of_le_of_lt k3 (by simpa using hl)
  have lsp : (spots (dOf t) rs).length < 64 := by rw [← esp, (perm_sortI _).length_eq, List.length_map]; exact hll
  have hs : nSort (eVar 3) [some (tpD rowD rs), some (tabD (many, t)), some (.dct (dz (homeZ t))), some (.ref S.length), none, none, none] (rT rowD S l) = .ok (.lst ((spots (dOf t) rs).map D.int)) (rT rowD S l) := by
    rw [← esp]
    exact rT_sort rfl hll
  have lc : lcD (.nm 6) (.tmp ((spots (dOf t) rs).map D.int)) tYesD (eFn Fheap [e2 ixD (eVar 3) (eVar 6)]) [some (tpD rowD rs), some (tabD (many, t)), some (.dct (dz (homeZ t))), some (.ref S.length), none, none, none] ((spots (dOf t) rs).map D.int) (rT rowD S l) = .ok ((spots (dOf t) rs).map fun s => tpD rowD (hp (rs.filter fun r => decide (dOf t r.1 = s)))) (rT rowD S l) := by
    refine lc_all D.int (fun s => tpD rowD (hp (rs.filter fun r => decide (dOf t r.1 = s)))) _ fun s hs => ⟨[some (tpD rowD rs), some (tabD (many, t)), some (.dct (dz (homeZ t))), some (.ref S.length), none, none, some (.int s)], rfl, ?_⟩
    obtain ⟨m, i1, i2⟩ := rT_ix (f := rowD) (S := S) hnd (hms s hs)
    rw [eg] at i2
    have hh := heapR (rT rowD S l) m _ i2 (Nat.lt_of_le_of_lt (List.length_filter_le _ _) (by omega))
    simp only [goS, i1, hh]
  have n1 := nLcS_lst (vs := [6]) (tg := .nm 6) (f := eAno (nSort (eVar 3))) (e := [some (tpD rowD rs), some (tabD (many, t)), some (.dct (dz (homeZ t))), some (.ref S.length), none, none, none]) (S := rT rowD S l) (xs := (spots (dOf t) rs).map D.int) (by simp only [goS, hs]) (by rw [List.length_map]; omega) lc
  have ix1 : ixD (tabD (many, t)) (.int 1) S = .ok (tpD rowD t) S := rfl
  simp only [Fparted, runD, bparted, go0, goS, ap_nDctP, ix1, dct_rows]
  rw [forS_tup (xs := rs.map rowD) rfl, q']
  simp only [goS, n1]
  refine fin_app ?_
  rw [gnd_lst]
  exact gnds_map (fun s => rpRow.tp.gnd _) _
theorem tog_len (f x : List (Int × Int)) : (hp (f ++ x)).length ≤ f.length + x.length := by
  have := hp_len (f ++ x)
  rwa [List.length_append] at this
theorem together (S : Sto) (hs : List (List (Int × Int))) (hl : (hs.map List.length).sum < 10000) : Ftogether [.lst (hs.map (tpD rowD))] S = .ok (tpD rowD (hs.foldl (fun f x => hp (f ++ x)) [])) S := by
  have lp : ∀ (xs : List (List (Int × Int))) (f : List (Int × Int)), f.length + (xs.map List.length).sum < 20000 → forD [2] (.nm 2) (.tmp (hs.map (tpD rowD))) btogether_1 (xs.map (tpD rowD)) [some (.lst (hs.map (tpD rowD))), some (tpD rowD f), none] S = .next [some (.lst (hs.map (tpD rowD))), some (tpD rowD (xs.foldl (fun f x => hp (f ++ x)) f)), none] S := by
    intro xs
    induction xs with
    | nil => intro f _; exact forD_nil trivial
    | cons x xs ih =>
      intro f h
      rw [List.map_cons, List.sum_cons] at h
      have j := joined S f x (by omega)
      have q : turn [2] (.nm 2) btogether_1 (tpD rowD x) [some (.lst (hs.map (tpD rowD))), some (tpD rowD f), none] S = .next [some (.lst (hs.map (tpD rowD))), some (tpD rowD (hp (f ++ x))), none] S := by
        simp only [turn, goS, btogether_1, j]
      rw [List.map_cons, forD_cons (src := .tmp _) trivial, q]
      exact ih (hp (f ++ x)) (by have := tog_len f x; omega)
  have q := lp hs [] (by simp; omega)
  have q' : forD [2] (.nm 2) (.tmp (hs.map (tpD rowD))) btogether_1 (hs.map (tpD rowD)) [some (.lst (hs.map (tpD rowD))), some (.tup []), none] S = _ := q
  simp only [Ftogether, runD, btogether, go0, goS]
  rw [forS_lst (xs := hs.map (tpD rowD)) rfl, q']
  simp only [goS]
  exact fin_same (rpRow.tp.gnd _)
theorem tog_facts : ∀ (hs : List (List (Int × Int))) (f : List (Int × Int)), Hf f → Hf (hs.foldl (fun f x => hp (f ++ x)) f) ∧ lts (hs.foldl (fun f x => hp (f ++ x)) f) = lts f ++ hs.flatMap lts
  | [], f, h => ⟨h, by simp⟩
  | x :: hs, f, h => by
    obtain ⟨h1, h2⟩ := hp_facts (f ++ x)
    obtain ⟨h3, h4⟩ := tog_facts hs (hp (f ++ x)) h1
    refine ⟨h3, ?_⟩
    rw [List.foldl_cons, h4, h2, lts_app, List.flatMap_cons, List.append_assoc]
theorem lens_le : ∀ (ss : List Int) (g : Int → List (Int × Int)), ((ss.map fun s => hp (g s)).map List.length).sum ≤ (ss.flatMap g).length
  | [], _ => by simp
  | s :: ss, g => by
    have h1 := lens_le ss g
    have h2 := hp_len (g s)
    rw [List.map_cons, List.map_cons, List.sum_cons, List.flatMap_cons, List.length_append]
    omega
theorem passed (S : Sto) (rs t : List (Int × Int)) (many : Int) (hl : rs.length < 64) (hp : ∀ q ∈ rs, 0 < q.2) (hm : ∀ r ∈ rs, r.1 ∈ t.map (·.1)) : Fpassed [tpD rowD rs, tabD (many, t)] S = .ok (tpD rowD (thr (dOf t) rs)) S := by
  have p := parted S rs t many hl hm
  have el : ((spots (dOf t) rs).map fun s => tpD rowD (Lw.hp (rs.filter fun r => decide (dOf t r.1 = s)))) = ((spots (dOf t) rs).map fun s => Lw.hp (rs.filter fun r => decide (dOf t r.1 = s))).map (tpD rowD) := by rw [List.map_map]; rfl
  rw [el] at p
  have g := together S ((spots (dOf t) rs).map fun s => Lw.hp (rs.filter fun r => decide (dOf t r.1 = s))) (by
    have h1 := lens_le (spots (dOf t) rs) fun s => rs.filter fun r => decide (dOf t r.1 = s)
    have h2 := flat_len (fun r : Int × Int => dOf t r.1) (spots (dOf t) rs) rs ((spots_pw (dOf t) rs).imp fun {a b} h => by omega)
    omega)
  obtain ⟨f1, f2⟩ := tog_facts ((spots (dOf t) rs).map fun s => Lw.hp (rs.filter fun r => decide (dOf t r.1 = s))) [] Hf.nil
  obtain ⟨t1, t2⟩ := thr_facts (dOf t) hp
  have e : (((spots (dOf t) rs).map fun s => Lw.hp (rs.filter fun r => decide (dOf t r.1 = s))).foldl (fun f x => Lw.hp (f ++ x)) []) = thr (dOf t) rs := by
    refine f1.uniq t1 ?_
    rw [f2, t2]
    show [] ++ _ = _
    rw [List.nil_append]
    unfold spl
    rw [List.flatMap_map, List.flatMap_def, List.flatMap_def]
    congr 1
    refine List.map_congr_left fun s _ => ?_
    rw [(hp_facts _).2, lts_filter]
  rw [e] at g
  simp only [Fpassed, runD, bpassed, go0, goS, p, g]
  exact fin_same (rpRow.tp.gnd _)
theorem inL_ints {k : Int} {xs : List Int} {neg : Bool} {S : Sto} : inD neg (.int k) (.lst (xs.map D.int)) S = .ok (.bl (if neg = true then !decide (k ∈ xs) else decide (k ∈ xs))) S := by
  have h1 : SeqAt.shaped (.list (pys (xs.map D.int))) = true := by
    have := (Rp.int.ls).shp (by decide) xs S
    simpa [Pu.shp, lsD, pyOf, D.py] using this
  have h2 : ((pys (xs.map D.int)).any fun z => PyData.eqv z (D.int k).py) = decide (k ∈ xs) := by
    induction xs with
    | nil => rfl
    | cons x xs ih =>
      have ih := ih (by
        have := (Rp.int.ls).shp (by decide) xs S
        simpa [Pu.shp, lsD, pyOf, D.py] using this)
      rw [List.map_cons]
      show (PyData.eqv (D.int x).py (D.int k).py || (pys (xs.map D.int)).any _) = _
      rw [ih]
      have : PyData.eqv (D.int x).py (D.int k).py = decide (x = k) := by
        by_cases e : x = k
        · rw [decide_eq_true e]; exact (Rp.int.1 x k).mpr e
        · rw [decide_eq_false e]
          refine Bool.eq_false_iff.mpr fun h => e ((Rp.int.1 x k).mp h)
      rw [this]
      by_cases e : x = k
      · simp [e]
      · simp [e, show ¬ k = x from fun z => e z.symm]
  unfold inD
  simp only [dcOf, lsOf]
  rw [if_pos ⟨rfl, h1⟩, h2]
theorem l59 : (10 ^ 59 : Int).natAbs.log2 < 9000 := by decide +kernel
theorem lit_at {ms : List Int} {x : Int} {m : Nat} (hm : ms.length = m) (h0 : 0 < m) (hp : ∀ p ∈ ms, 0 < p ∧ p.natAbs.log2 < 9000) : ∃ p : Int, atI (ms.map D.int) (x % (m : Int)) = some (.int p) ∧ 0 < p ∧ p.natAbs.log2 < 9000 := by
  subst hm
  have h1 : 0 ≤ x % (ms.length : Int) := Int.emod_nonneg _ (by omega)
  have h2 : x % (ms.length : Int) < ms.length := Int.emod_lt_of_pos _ (by omega)
  obtain ⟨j, hj⟩ := Int.eq_ofNat_of_zero_le h1
  rw [hj, atI_cast]
  have h3 : j < ms.length := by omega
  exact ⟨ms[j], by simp [h3], hp _ (List.getElem_mem h3)⟩
theorem lit129 : ∀ p ∈ ([1, 2, 9] : List Int), 0 < p ∧ p.natAbs.log2 < 9000 := by
  intro p hp
  simp only [List.mem_cons, List.not_mem_nil, or_false] at hp
  rcases hp with rfl | rfl | rfl <;> decide +kernel
theorem keys_turn {S : Sto} {k m : Nat} (h : k < S.length) (ks : List Int) (key y : Int) (hn : ks.length < 6) : ∃ key' y' : Int, turn [4] (.nm 4) b_law_keys_1 (.int (ks.length : Int)) [some (D.ref k), some (D.int m), some (D.ref S.length), some (D.int key), none] (Dg (S ++ [DO.lst (ks.map D.int)]) k y) =
    .next [some (D.ref k), some (D.int m), some (D.ref S.length), some (D.int key'), none] (Dg (S ++ [DO.lst ((ks ++ [key']).map D.int)]) k y') := by
  have h' : k < (S ++ [DO.lst (ks.map D.int)]).length := by simp; omega
  obtain ⟨p, hp, h0, hl⟩ := lit_at (ms := [1, 2, 9]) (x := y) (m := 3) rfl (by decide) lit129
  have hp' : atI [D.int 1, D.int 2, D.int 9] (y % 3) = some (.int p) := hp
  generalize hb : (decide ((ks.length : Int) > 0)) = b0
  have hat : (Dg (S ++ [DO.lst (ks.map D.int)]) k (y / 3 / p))[S.length]? = some (.lst (ks.map D.int)) := by
    rw [Dg_ne (by omega), last_at]
  have hap := appD_ref (y := .int (key + (if b0 = true then 1 else 0) + y / 3 % p)) hat (sz (by simp; omega))
  refine ⟨key + (if b0 = true then 1 else 0) + y / 3 % p, y / 3 / p, ?_⟩
  simp only [turn, b_law_keys_1, bindT_nm, List.set, ap_Seq, ap_Set, ap_2, ap_Fn, ap_Args, ap_Args0, ap_Call, ap_Var0, ap_VarS, ap_C, Res.bind_ok, intD_int, hb, int1_bl, addD_int, dig h' (show (0 : Int) < 3 by decide) (by decide), ap_Tup, ixD_tup, hp', opt_some, dig h' h0 hl, Res.stm_ok, SRes.seq_next, ap_Expr, ap_M, isT_ref hat, if_true, hap, wipe_cons, wipe_nil]
  rw [Dg_comm (by omega), set_last, List.map_append]
  rfl
theorem keys {S : Sto} {k : Nat} {x : Int} {m : Nat} (h : k < S.length) (hm : m ≤ 6) : ∃ (ks : List Int) (y : Int), F_law_keys [.ref k, .int m] (Dg S k x) = .ok (.lst (ks.map D.int)) (Dg S k y) ∧ ks.length = m := by
  simp only [F_law_keys, runD, b_law_keys]
  simp only [ap_Seq, ap_Set, ap_New, ap_nLst, ap_Args0, startE_a2, List.replicate, Res.bind_ok, Res.stm_ok, SRes.seq_next, List.set, ap_C]
  rw [Dg_app h, Dg_len]
  have h' : k < (S ++ [DO.lst []]).length := by simp; omega
  simp only [ap_If, ap_TB, ap_2, ap_Fn, ap_Args, ap_Args0, ap_Var0, ap_C, Res.bind_ok, dig h' (show (0 : Int) < 4 by decide) (by decide), eqD_int, toB_bl, Res.stm_ok]
  have e2 : ∃ (key y : Int), (if (decide (x % 4 = 1)) = true then (sSet 3 (eFn F_law_digit [(eVar 0), (e2 powD (eC (.int 10)) (eC (.int 59)))])) [some (D.ref k), some (D.int m), some (D.ref S.length), some (D.int 0), none] (Dg (S ++ [DO.lst []]) k (x / 4)) else sNext [some (D.ref k), some (D.int m), some (D.ref S.length), some (D.int 0), none] (Dg (S ++ [DO.lst []]) k (x / 4))) = .next [some (D.ref k), some (D.int m), some (D.ref S.length), some (D.int key), none] (Dg (S ++ [DO.lst []]) k y) := by
    by_cases hc : x % 4 = 1
    · refine ⟨x / 4 % 10 ^ 59, x / 4 / 10 ^ 59, ?_⟩
      simp only [hc, decide_true, if_true, ap_Set, ap_Fn, ap_Args, ap_Args0, ap_Var0, ap_2, ap_C, p10_59, Res.bind_ok, dig h' (show (0 : Int) < 10 ^ 59 by decide +kernel) l59, Res.stm_ok, List.set]
    · exact ⟨0, x / 4, by simp [hc]⟩
  obtain ⟨key, y, q⟩ := e2
  rw [q]
  rw [SRes.seq_next, ap_Seq, ap_Fgt, forR1 (n := m) rfl (by omega)]
  obtain ⟨e', S', q, hI⟩ := for_inv0 (dead := [4]) (tg := .nm 4) (body := b_law_keys_1) (ys := rngD 0 m) (xs := rngD 0 m) (S := Dg (S ++ [DO.lst []]) k y) (e := [some (D.ref k), some (D.int m), some (D.ref S.length), some (D.int key), none])
    (fun n e S' => ∃ (ks : List Int) (key y : Int), ks.length = n ∧ e = [some (D.ref k), some (D.int m), some (D.ref S.length), some (D.int key), none] ∧ S' = Dg (S ++ [DO.lst (ks.map D.int)]) k y) ⟨[], key, y, rfl, rfl, rfl⟩ (fun n e S' z hz ⟨ks, key, y, hn, he, hS⟩ => by
      subst he hS hn
      obtain ⟨ez, hlt⟩ := rngD_get hz
      subst ez
      rw [Int.zero_add]
      obtain ⟨key', y', q⟩ := keys_turn (m := m) h ks key y (by omega)
      exact ⟨_, _, q, ks ++ [key'], key', y', by simp, rfl, rfl⟩)
  obtain ⟨ks, key', y', hn, rfl, rfl⟩ := hI
  rw [q]
  refine ⟨ks, y', ?_, by simpa using hn⟩
  simp [fin_dgR h]
theorem lit_at2 {ms : List Int} {x : Int} {m : Nat} (hm : ms.length = m) (h0 : 0 < m) : ∃ p : Int, p ∈ ms ∧ atI (ms.map D.int) (x % (m : Int)) = some (.int p) := by
  subst hm
  have h1 : 0 ≤ x % (ms.length : Int) := Int.emod_nonneg _ (by omega)
  have h2 : x % (ms.length : Int) < ms.length := Int.emod_lt_of_pos _ (by omega)
  obtain ⟨j, hj⟩ := Int.eq_ofNat_of_zero_le h1
  rw [hj, atI_cast]
  have h3 : j < ms.length := by omega
  exact ⟨ms[j], List.getElem_mem h3, by simp [h3]⟩
theorem lit57 : ∀ p ∈ ([2, 5, 12, 10 ^ 57] : List Int), 0 < p ∧ p.natAbs.log2 < 9000 := by
  intro p hp
  simp only [List.mem_cons, List.not_mem_nil, or_false] at hp
  rcases hp with rfl | rfl | rfl | rfl <;> decide +kernel
theorem lit57b : ∀ p ∈ ([2, 5, 12, 10 ^ 57] : List Int), p ≤ 10 ^ 57 := by
  intro p hp
  simp only [List.mem_cons, List.not_mem_nil, or_false] at hp
  rcases hp with rfl | rfl | rfl | rfl <;> decide +kernel
theorem whole2 {S : Sto} {k : Nat} {x : Int} (h : k < S.length) : ∃ d y : Int, 0 ≤ d ∧ d < 10 ^ 57 ∧ F_law_whole [.ref k] (Dg S k x) = .ok (.int d) (Dg S k y) := by
  obtain ⟨p, hm, hp⟩ := lit_at2 (ms := [2, 5, 12, 10 ^ 57]) (x := x) (m := 4) rfl (by decide)
  obtain ⟨h0, hl⟩ := lit57 p hm
  have hb := lit57b p hm
  have h1 := Int.emod_lt_of_pos (x / 4) h0
  refine ⟨x / 4 % p, x / 4 / p, Int.emod_nonneg _ (by omega), by omega, ?_⟩
  simp only [F_law_whole, runD, b_law_whole, ap_Ret, ap_Fn, ap_Args, ap_Args0, ap_2, ap_Tup, ap_C, startE_a1, ap_Var0, Res.bind_ok, p10_57, dig h (show (0 : Int) < 4 by decide) (by decide), ixD_tup]
  have hp' : atI [D.int 2, D.int 5, D.int 12, D.int (10 ^ 57)] (x % 4) = some (.int p) := hp
  simp only [hp', opt_some, Res.bind_ok, ap_Args, ap_Args0, ap_Var0, dig h h0 hl, Res.stm_ok, retD_ret]
  exact fin_dg0 h rfl
noncomputable def RC (ks : List Int) (far : Bool) (r : Int × Int) : Prop := r.1 ∈ ks ∧ 0 ≤ r.2 ∧ (far = false → r.2 < 4) ∧ r.2 < 10 ^ 57
theorem rb4 (y : Int) : 0 ≤ y % 4 ∧ y % 4 < 10 ^ 57 := by
  have h1 : (4 : Int) ≤ 10 ^ 57 := by decide
  omega
theorem rows_turn {S : Sto} {k : Nat} (h : k < S.length) (ks : List Int) (hk : 0 < ks.length) (hk' : ks.length ≤ 6) (m : Nat) (far : Bool) (rs : List (Int × Int)) (y : Int) (i : Int) (hn : rs.length < 64) : ∃ (r : Int × Int) (y' : Int), RC ks far r ∧ turn [5, 6] (.nm 5) b_law_rows_1 (.int i) [some (D.ref k), some (D.lst (ks.map D.int)), some (D.int m), some (.bl far), some (.ref S.length), none, none] (Dg (S ++ [DO.lst (rs.map rowD)]) k y) =
    .next [some (D.ref k), some (D.lst (ks.map D.int)), some (D.int m), some (.bl far), some (.ref S.length), none, none] (Dg (S ++ [DO.lst ((rs ++ [r]).map rowD)]) k y') := by
  have h' : k < (S ++ [DO.lst (rs.map rowD)]).length := by simp; omega
  have tail : ∀ (o z : Int), 0 ≤ o → (far = false → o < 4) → o < 10 ^ 57 → ∃ (r : Int × Int) (y' : Int), RC ks far r ∧ aft [5, 6] ((sExpr (eM "list" appD (eVar 4) [(eTup [(e2 ixD (eVar 1) (eFn F_law_digit [(eVar 0), (eCall lenD [(eVar 1)])])), (eVar 6)])])) [some (D.ref k), some (D.lst (ks.map D.int)), some (D.int m), some (.bl far), some (.ref S.length), some (.int i), some (.int o)] (Dg (S ++ [DO.lst (rs.map rowD)]) k z)) = .next [some (D.ref k), some (D.lst (ks.map D.int)), some (D.int m), some (.bl far), some (.ref S.length), none, none] (Dg (S ++ [DO.lst ((rs ++ [r]).map rowD)]) k y') := by
    intro o z o0 o4 o1
    have hl : (((ks.map D.int).length : Nat) : Int) = (ks.length : Int) := by simp
    have h1 : 0 ≤ z % (ks.length : Int) := Int.emod_nonneg _ (by omega)
    have h2 : z % (ks.length : Int) < ks.length := Int.emod_lt_of_pos _ (by omega)
    obtain ⟨j, hj⟩ := Int.eq_ofNat_of_zero_le h1
    have h3 : j < ks.length := by omega
    have ha : atI (ks.map D.int) (z % (ks.length : Int)) = some (.int ks[j]) := by
      rw [hj, atI_cast]
      simp [h3]
    have hat : (Dg (S ++ [DO.lst (rs.map rowD)]) k (z / ks.length))[S.length]? = some (.lst (rs.map rowD)) := by
      rw [Dg_ne (by omega), last_at]
    have hap := appD_ref (y := rowD (ks[j], o)) hat (sz (by simp; omega))
    have lg : (ks.length : Int).natAbs.log2 < 9000 := by
      have : (ks.length : Int).natAbs.log2 ≤ (ks.length : Int).natAbs := Nat.log2_le_self _
      omega
    refine ⟨(ks[j], o), z / ks.length, ⟨List.getElem_mem h3, o0, o4, o1⟩, ?_⟩
    simp only [ap_Expr, ap_M, ap_VarS, ap_Var0, Res.bind_ok, isT_ref (Dg_last (o := .lst (rs.map rowD)) (z := z) h), if_true, ap_Args, ap_Args0, ap_Tup, ap_2, ap_Fn, ap_Call, lenD_lst, hl, dig h' (show (0 : Int) < ks.length by omega) lg, ixD_lst, ha, opt_some]
    rw [show [D.tup [D.int ks[j], D.int o]] = [rowD (ks[j], o)] from rfl, hap, Res.stm_ok, Dg_comm (by omega), set_last, List.map_append]
    rfl
  cases far with
  | false =>
    obtain ⟨r, y', hb, q⟩ := tail (y % 4) (y / 4) (rb4 y).1 (fun _ => by omega) (rb4 y).2
    refine ⟨r, y', hb, ?_⟩
    rw [← q]
    simp only [turn, b_law_rows_1, bindT_nm, List.set, ap_Seq, ap_Set, ap_Fn, ap_Args, ap_Args0, ap_Var0, ap_C, Res.bind_ok, dig h' (show (0 : Int) < 4 by decide) (by decide), Res.stm_ok, SRes.seq_next, ap_If, ap_Tr, ap_VarS, truD_bl, Bool.false_eq_true, if_false, ap_Next]
  | true =>
    obtain ⟨d, z, d0, d1, qw⟩ := whole2 (S := S ++ [DO.lst (rs.map rowD)]) (k := k) (x := y / 4) h'
    obtain ⟨r, y', hb, q⟩ := tail d z d0 (fun z => nomatch z) d1
    refine ⟨r, y', hb, ?_⟩
    rw [← q]
    simp only [turn, b_law_rows_1, bindT_nm, List.set, ap_Seq, ap_Set, ap_Fn, ap_Args, ap_Args0, ap_Var0, ap_C, Res.bind_ok, dig h' (show (0 : Int) < 4 by decide) (by decide), Res.stm_ok, SRes.seq_next, ap_If, ap_Tr, ap_VarS, truD_bl, if_true, qw]
theorem rows {S : Sto} {k : Nat} {x : Int} (h : k < S.length) (ks : List Int) (hk : 0 < ks.length) (hk' : ks.length ≤ 6) (m : Nat) (hm : m < 64) (far : Bool) : ∃ (rs : List (Int × Int)) (y : Int), F_law_rows [.ref k, .lst (ks.map D.int), .int m, .bl far] (Dg S k x) = .ok (tpD rowD rs) (Dg S k y) ∧ rs.length = m ∧ ∀ r ∈ rs, RC ks far r := by
  simp only [F_law_rows, runD, b_law_rows]
  simp only [ap_Seq, ap_Set, ap_New, ap_nLst, ap_Args0, startE_a4, List.replicate, Res.bind_ok, Res.stm_ok, SRes.seq_next, List.set, ap_C]
  rw [Dg_app h, Dg_len, ap_Fgt, forR1 (n := m) rfl (by omega)]
  obtain ⟨e', S', q, hI⟩ := for_inv0 (dead := [5, 6]) (tg := .nm 5) (body := b_law_rows_1) (ys := rngD 0 m) (xs := rngD 0 m) (S := Dg (S ++ [DO.lst []]) k x) (e := [some (D.ref k), some (D.lst (ks.map D.int)), some (D.int m), some (.bl far), some (.ref S.length), none, none])
    (fun n e S' => ∃ (rs : List (Int × Int)) (y : Int), rs.length = n ∧ (∀ r ∈ rs, RC ks far r) ∧ e = [some (D.ref k), some (D.lst (ks.map D.int)), some (D.int m), some (.bl far), some (.ref S.length), none, none] ∧ S' = Dg (S ++ [DO.lst (rs.map rowD)]) k y) ⟨[], x, rfl, fun r h => absurd h List.not_mem_nil, rfl, rfl⟩ (fun n e S' z hz ⟨rs, y, hn, hB, he, hS⟩ => by
      subst he hS hn
      obtain ⟨ez, hlt⟩ := rngD_get hz
      subst ez
      obtain ⟨r, y', hb, q⟩ := rows_turn h ks hk hk' m far rs y (0 + rs.length) (by omega)
      exact ⟨_, _, q, rs ++ [r], y', by simp, fun v hv => (List.mem_append.mp hv).elim (hB v) fun h => by rw [List.mem_singleton] at h; rw [h]; exact hb, rfl, rfl⟩)
  obtain ⟨rs, y', hn, hB, rfl, rfl⟩ := hI
  rw [q]
  refine ⟨rs, y', ?_, by simpa using hn, hB⟩
  have hat : (Dg (S ++ [DO.lst (rs.map rowD)]) k y')[S.length]? = some (.lst (rs.map rowD)) := by
    rw [Dg_ne (by omega), last_at]
  simp only [fgt_next, wipe_cons, wipe_nil, List.set, SRes.seq_next, ap_Ret, ap_Call, ap_Args, ap_Args0, ap_VarS, ap_Var0, Res.bind_ok, tupD_ref hat, Res.stm_ok, retD_ret]
  rw [← Dg_app h]
  exact fin_dg h (rpRow.tp.gnd rs)
theorem lc_inv2 {tg : Tg} {t : Ev Bool} {f : Ev D} {e : En} {ys : List D} (I : Nat → Sto → List D → Prop) : ∀ (xs : List D) (k : Nat) (S : Sto) (acc : List D), I k S acc →
    (∀ (n : Nat) (S : Sto) (acc : List D) (x : D), xs[n]? = some x → I (k + n) S acc → ∃ e1 b S1, bindT tg x e = some e1 ∧ t e1 S = .ok b S1 ∧ (b = true → ∃ d S2, f e1 S1 = .ok d S2 ∧ I (k + n + 1) S2 (acc ++ [d])) ∧ (b = false → I (k + n + 1) S1 acc)) →
    ∃ ds S', lcD tg (.tmp ys) t f e xs S = .ok ds S' ∧ I (k + xs.length) S' (acc ++ ds)
  | [], k, S, acc, h0, _ => ⟨[], S, by rw [lcD_nil, if_pos (show (Src.tmp ys).ok S from trivial)], by simpa using h0⟩
  | x :: xs, k, S, acc, h0, h => by
    obtain ⟨e1, b, S1, q1, q2, h1, h2⟩ := h 0 S acc x rfl h0
    have nxt : ∀ (S2 : Sto) (acc2 : List D), I (k + 1) S2 acc2 → ∃ ds S', lcD tg (.tmp ys) t f e xs S2 = .ok ds S' ∧ I (k + 1 + xs.length) S' (acc2 ++ ds) := fun S2 acc2 hI => lc_inv2 (ys := ys) I xs (k + 1) S2 acc2 hI fun n S acc y hy hI => by
      have := h (n + 1) S acc y (by simpa using hy)
      rw [show k + (n + 1) = k + 1 + n by omega] at this
      exact this hI
    rw [List.length_cons, show k + (xs.length + 1) = k + 1 + xs.length by omega, lcD_cons, if_pos (show (Src.tmp ys).ok S from trivial), q1]
    simp only [q2, nox_ok, Res.bind_ok]
    cases b with
    | true =>
      obtain ⟨d, S2, q3, h3⟩ := h1 rfl
      obtain ⟨ds, S', q4, h4⟩ := nxt S2 _ h3
      exact ⟨d :: ds, S', by simp only [if_true, q3, nox_ok, Res.bind_ok, q4], by simpa using h4⟩
    | false =>
      obtain ⟨ds, S', q4, h4⟩ := nxt S1 _ (h2 rfl)
      exact ⟨ds, S', by rw [if_neg Bool.false_ne_true, q4], h4⟩
theorem nLcS2 {vs : List Nat} {tg : Tg} {f g : Ev D} {t : Ev Bool} {e : En} {S S2 : Sto} {xs ys : List D} (hf : f e S = .ok (.lst xs) S) (hl : xs.length < 1048576) (q : lcD tg (.tmp xs) t g (wipeE e vs) xs S = .ok ys S2) : nLc vs tg (iS f) t g e S = .ok (.lst ys) S2 := by
  have e1 : iS f e S = .ok (.tmp xs) S := by rw [ap_iS, hf, Res.bind_ok]; rfl
  rw [ap_Lc, e1, Res.bind_ok]
  simp only [Src.items_tmp]
  rw [if_pos (Nat.le_of_lt (sz hl)), q, Res.bind_ok]
theorem lit136 : ∀ p ∈ ([1, 3, 6] : List Int), 0 < p ∧ p.natAbs.log2 < 9000 := by
  intro p hp
  simp only [List.mem_cons, List.not_mem_nil, or_false] at hp
  rcases hp with rfl | rfl | rfl <;> decide +kernel
theorem log_of {b : Int} (h0 : 0 < b) (h : b ≤ 10 ^ 59) : b.natAbs.log2 < 9000 := by
  have h1 : b.natAbs ≤ 10 ^ 59 := by
    have : ((10 ^ 59 : Nat) : Int) = 10 ^ 59 := by decide
    omega
  have h2 : b.natAbs < 2 ^ 200 := Nat.lt_of_le_of_lt h1 (by decide)
  have := (Nat.log2_lt (show b.natAbs ≠ 0 by omega)).mpr h2
  omega
theorem lit_at3 {ms : List Int} {x : Int} {m : Nat} (hm : ms.length = m) (h0 : 0 < m) : ∃ p : Int, p ∈ ms ∧ atI (ms.map D.int) (x % (m : Int)) = some (.int p) := by
  subst hm
  have h1 : 0 ≤ x % (ms.length : Int) := Int.emod_nonneg _ (by omega)
  have h2 : x % (ms.length : Int) < ms.length := Int.emod_lt_of_pos _ (by omega)
  obtain ⟨j, hj⟩ := Int.eq_ofNat_of_zero_le h1
  rw [hj, atI_cast]
  have h3 : j < ms.length := by omega
  exact ⟨ms[j], List.getElem_mem h3, by simp [h3]⟩
theorem table {S : Sto} {k : Nat} {x : Int} (h : k < S.length) (ks : List Int) (hk : ks.length ≤ 6) (far : Bool) : ∃ (many : Int) (t : List (Int × Int)) (y : Int), 1 ≤ many ∧ (∀ key ∈ ks, key ∈ t.map (·.1)) ∧ t.length ≤ 12 ∧ (∀ r ∈ t, 0 ≤ r.2 ∧ r.2 < many) ∧ F_law_table [.ref k, .lst (ks.map D.int), .bl far] (Dg S k x) = .ok (tabD (many, t)) (Dg S k y) := by
  obtain ⟨p, hp, ha⟩ := lit_at3 (ms := [1, 3, 6]) (x := x) (m := 3) rfl (by decide)
  have ha' : atI [D.int 1, D.int 3, D.int 6] (x % 3) = some (.int p) := ha
  obtain ⟨p0, pl⟩ := lit136 p hp
  have p6 : p ≤ 6 := by
    simp only [List.mem_cons, List.not_mem_nil, or_false] at hp
    rcases hp with rfl | rfl | rfl <;> decide
  have dA := dig (x := x) (m := 3) h (by decide) (by decide)
  have dB := dig (x := x / 3) (m := p) h p0 pl
  have hA : 0 ≤ x / 3 % p := Int.emod_nonneg _ (by omega)
  have hA2 : x / 3 % p < p := Int.emod_lt_of_pos _ p0
  generalize x / 3 % p = m0 at dB hA hA2
  generalize x / 3 / p = y0 at dB
  -- the bins
  have st : ∃ (many y : Int), 1 ≤ many ∧ many ≤ 10 ^ 59 ∧ sIf (tAndD (eTr (eVar 2)) (eTB (e2 (eqD false) (eFn F_law_digit [(eVar 0), (eC (.int 3))]) (eC (.int 1))))) (sSet 3 (e2 addD (eC (.int 1)) (eFn F_law_digit [(eVar 0), (e2 powD (eC (.int 10)) (eC (.int 59)))]))) sNext [some (.ref k), some (.lst (ks.map D.int)), some (.bl far), some (.int (1 + m0)), none, none] (Dg S k y0) = .next [some (.ref k), some (.lst (ks.map D.int)), some (.bl far), some (.int many), none, none] (Dg S k y) := by
    have h59 : (7 : Int) ≤ 10 ^ 59 := by decide
    cases far with
    | false => exact ⟨1 + m0, y0, by omega, by omega, by simp only [goS]⟩
    | true =>
      have dC := dig (x := y0) (m := 3) h (by decide) (by decide)
      by_cases h1 : y0 % 3 = 1
      · have dD := dig (x := y0 / 3) (m := 10 ^ 59) h (by decide) l59
        have b1 : 0 ≤ y0 / 3 % 10 ^ 59 := Int.emod_nonneg _ (by decide)
        have b2 : y0 / 3 % 10 ^ 59 < 10 ^ 59 := Int.emod_lt_of_pos _ (by decide)
        generalize y0 / 3 % 10 ^ 59 = m1 at dD b1 b2
        generalize y0 / 3 / 10 ^ 59 = y1 at dD
        refine ⟨1 + m1, y1, by omega, by omega, ?_⟩
        simp only [goS, dC, eqD_int, h1, decide_true, p10_59, dD, addD_int]
      · refine ⟨1 + m0, y0 / 3, by omega, by omega, ?_⟩
        simp only [goS, dC, eqD_int, h1, decide_false]
  obtain ⟨many, y1, m1, m2, qs⟩ := st
  -- more keys
  have lcA : ∃ (ms : List Int) (y : Int), ms.length ≤ ks.length ∧ lcD (.nm 5) (.tmp (ks.map D.int)) (tAndD (eTB (e2 (inD true) (e2 addD (eVar 5) (eC (.int 1))) (eVar 1))) (eTB (e2 (eqD false) (eFn F_law_digit [(eVar 0), (eC (.int 4))]) (eC (.int 1))))) (e2 addD (eVar 5) (eC (.int 1))) [some (.ref k), some (.lst (ks.map D.int)), some (.bl far), some (.int many), none, none] (ks.map D.int) (Dg S k y1) = .ok (ms.map D.int) (Dg S k y) := by
    obtain ⟨ds, S', q, ms, y, e1, e2', e3⟩ := lc_inv2 (tg := .nm 5) (t := tAndD (eTB (e2 (inD true) (e2 addD (eVar 5) (eC (.int 1))) (eVar 1))) (eTB (e2 (eqD false) (eFn F_law_digit [(eVar 0), (eC (.int 4))]) (eC (.int 1))))) (f := e2 addD (eVar 5) (eC (.int 1))) (e := [some (.ref k), some (.lst (ks.map D.int)), some (.bl far), some (.int many), none, none]) (ys := ks.map D.int)
      (fun n S' acc => ∃ (ms : List Int) (y : Int), S' = Dg S k y ∧ acc = ms.map D.int ∧ ms.length ≤ n) (ks.map D.int) 0 (Dg S k y1) [] ⟨[], y1, rfl, rfl, Nat.le_refl _⟩ (fun n S' acc z hz ⟨ms, y, e1, e2', e3⟩ => by
        subst e1 e2'
        rw [List.getElem?_map, Option.map_eq_some_iff] at hz
        obtain ⟨key, _, rfl⟩ := hz
        have hin : inD true (.int (key + 1)) (.lst (ks.map D.int)) (Dg S k y) = .ok (.bl (!decide (key + 1 ∈ ks))) (Dg S k y) := inL_ints
        have dE := dig (x := y) (m := 4) h (by decide) (by decide)
        by_cases hm : key + 1 ∈ ks
        · refine ⟨[some (.ref k), some (.lst (ks.map D.int)), some (.bl far), some (.int many), none, some (.int key)], false, Dg S k y, rfl, ?_, (fun z => nomatch z), fun _ => ⟨ms, y, rfl, rfl, by omega⟩⟩
          simp only [goS, addD_int, hin, hm, decide_true, Bool.not_true]
        · refine ⟨[some (.ref k), some (.lst (ks.map D.int)), some (.bl far), some (.int many), none, some (.int key)], decide (y % 4 = 1), Dg S k (y / 4), rfl, ?_, fun _ => ⟨.int (key + 1), Dg S k (y / 4), ?_, ms ++ [key + 1], y / 4, rfl, by rw [List.map_append]; rfl, by rw [List.length_append, List.length_singleton]; omega⟩, fun _ => ⟨ms, y / 4, rfl, rfl, by omega⟩⟩
          · simp only [goS, addD_int, hin, hm, decide_false, Bool.not_false, dE, eqD_int]
          · simp only [goS, addD_int])
    subst e1
    rw [List.nil_append] at e2'
    subst e2'
    exact ⟨ms, y, by simpa using e3, q⟩
  obtain ⟨ms, y2, lm, qA⟩ := lcA
  have nA := nLcS2 (vs := [5]) (tg := .nm 5) (f := eVar 1) (e := [some (.ref k), some (.lst (ks.map D.int)), some (.bl far), some (.int many), none, none]) (S := Dg S k y1) (xs := ks.map D.int) rfl (by rw [List.length_map]; omega) qA
  -- the spots
  generalize hK : sortI (ks ++ ms) = K
  have lK : K.length ≤ 12 := by rw [← hK, (perm_sortI _).length_eq, List.length_append]; omega
  have lcB : ∃ (t : List (Int × Int)) (y : Int), t.map (·.1) = K ∧ (∀ r ∈ t, 0 ≤ r.2 ∧ r.2 < many) ∧ lcD (.nm 5) (.tmp (K.map D.int)) tYesD (eTup [(eVar 5), (eFn F_law_digit [(eVar 0), (eVar 3)])]) [some (.ref k), some (.lst (ks.map D.int)), some (.bl far), some (.int many), some (.lst (ms.map D.int)), none] (K.map D.int) (Dg S k y2) = .ok (t.map rowD) (Dg S k y) := by
    obtain ⟨ds, S', q, t, y, e1, e2', e3, e4⟩ := lc_inv (tg := .nm 5) (f := eTup [(eVar 5), (eFn F_law_digit [(eVar 0), (eVar 3)])]) (e := [some (.ref k), some (.lst (ks.map D.int)), some (.bl far), some (.int many), some (.lst (ms.map D.int)), none]) (ys := K.map D.int)
      (fun n S' acc => ∃ (t : List (Int × Int)) (y : Int), S' = Dg S k y ∧ acc = t.map rowD ∧ t.map (·.1) = K.take n ∧ ∀ r ∈ t, 0 ≤ r.2 ∧ r.2 < many) (K.map D.int) 0 (Dg S k y2) [] ⟨[], y2, rfl, rfl, rfl, fun r hr => absurd hr List.not_mem_nil⟩ (fun n S' acc z hz ⟨t, y, e1, e2', e3, e4⟩ => by
        subst e1 e2'
        rw [List.getElem?_map, Option.map_eq_some_iff] at hz
        obtain ⟨key, hz, rfl⟩ := hz
        rw [Nat.zero_add] at e3 ⊢
        have dE := dig (x := y) (m := many) h (by omega) (log_of (by omega) m2)
        have b1 : 0 ≤ y % many := Int.emod_nonneg _ (by omega)
        have b2 : y % many < many := Int.emod_lt_of_pos _ (by omega)
        refine ⟨[some (.ref k), some (.lst (ks.map D.int)), some (.bl far), some (.int many), some (.lst (ms.map D.int)), some (.int key)], rowD (key, y % many), Dg S k (y / many), rfl, ?_, t ++ [(key, y % many)], y / many, rfl, by rw [List.map_append]; rfl, ?_, fun r hr => ?_⟩
        · simp only [goS, dE]
          rfl
        · rw [List.map_append, e3, List.take_add_one, hz]
          rfl
        · rcases List.mem_append.mp hr with hr | hr
          · exact e4 r hr
          · rw [List.mem_singleton.mp hr]
            exact ⟨b1, b2⟩)
    subst e1
    rw [List.nil_append] at e2'
    subst e2'
    rw [Nat.zero_add, List.length_map, List.take_length] at e3
    exact ⟨t, y, e3, e4, q⟩
  obtain ⟨t, y3, et, bt, qB⟩ := lcB
  have hs : nSort (e2 addD (eVar 1) (eVar 4)) [some (.ref k), some (.lst (ks.map D.int)), some (.bl far), some (.int many), some (.lst (ms.map D.int)), none] (Dg S k y2) = .ok (.lst (K.map D.int)) (Dg S k y2) := by
    rw [← hK]
    refine nSort_ints (d := .lst ((ks ++ ms).map D.int)) ?_ rfl rfl
    simp only [goS]
    rw [addL (by rw [List.length_map, List.length_map]; omega), List.map_append]
  have nB := nLcS2 (vs := [5]) (tg := .nm 5) (f := eAno (nSort (e2 addD (eVar 1) (eVar 4)))) (e := [some (.ref k), some (.lst (ks.map D.int)), some (.bl far), some (.int many), some (.lst (ms.map D.int)), none]) (S := Dg S k y2) (xs := K.map D.int) (by simp only [goS, hs]) (by rw [List.length_map]; omega) qB
  refine ⟨many, t, y3, m1, fun key hkey => by rw [et, ← hK]; exact (perm_sortI _).mem_iff.mpr (List.mem_append_left _ hkey), by have := congrArg List.length et; rw [List.length_map] at this; omega, bt, ?_⟩
  have dA' : F_law_digit [.ref k, .int 3] (Dg S k x) = .ok (.int (x % 3)) (Dg S k (x / 3)) := dA
  simp only [F_law_table, runD, b_law_table, go0, goS, dA', ixD_tup, ha', dB, addD_int]
  have qs' := qs
  simp only [goS, addD_int] at qs'
  rw [qs']
  simp only [goS, nA, nB, tupD_lst]
  exact fin_dg0 h (by
    rw [gnd_tup]
    simp only [gnds_cons, gnds_nil, gnd_int, gnd_tup, Bool.true_and, Bool.and_true]
    exact gnds_map (fun r => rpRow.gnd r) t)
theorem drawn_heap {S : Sto} {k : Nat} {x : Int} (h : k < S.length) (ks : List Int) (hk : 0 < ks.length) (hk' : ks.length ≤ 6) : ∃ (rs : List (Int × Int)) (y : Int), F_law_drawn_heap [.ref k, .lst (ks.map D.int)] (Dg S k x) = .ok (tpD rowD rs) (Dg S k y) ∧ rs.length < 64 ∧ ∃ far, ∀ r ∈ rs, RC ks far r := by
  have tail : ∀ (m z : Int), 0 ≤ m → m < 64 → ∃ (rs : List (Int × Int)) (y : Int), retD .frz (Dg S k x) (sRet (eFn F_law_rows [(eVar 0), (eVar 1), (eVar 2), (e2 (eqD false) (eFn F_law_digit [(eVar 0), (eC (.int 3))]) (eC (.int 1)))]) [some (D.ref k), some (D.lst (ks.map D.int)), some (.int m)] (Dg S k z)) = .ok (tpD rowD rs) (Dg S k y) ∧ rs.length < 64 ∧ ∃ far, ∀ r ∈ rs, RC ks far r := by
    intro m z h0 h1
    obtain ⟨n, rfl⟩ := Int.eq_ofNat_of_zero_le h0
    obtain ⟨rs, y, q, hl, hB⟩ := rows (x := z / 3) h ks hk hk' n (by omega) (decide (z % 3 = 1))
    refine ⟨rs, y, ?_, by omega, _, hB⟩
    simp only [ap_Ret, ap_Fn, ap_Args, ap_Args0, ap_VarS, ap_Var0, ap_2, ap_C, Res.bind_ok, dig h (show (0 : Int) < 3 by decide) (by decide), eqD_int, q, Res.stm_ok, retD_ret]
    exact fin_dg0 h (rpRow.tp.gnd rs)
  have m9 : 0 ≤ x % 9 ∧ x % 9 < 64 := by omega
  by_cases hc : x / 9 % 4 = 1
  · obtain ⟨rs, y, q, hl⟩ := tail (x / 9 / 4 % 41) (x / 9 / 4 / 41) (by omega) (by omega)
    refine ⟨rs, y, ?_, hl⟩
    rw [← q]
    simp only [F_law_drawn_heap, runD, b_law_drawn_heap, ap_Seq, ap_Set, ap_Fn, ap_Args, ap_Args0, startE_a2, List.replicate, ap_Var0, ap_VarS, ap_C, Res.bind_ok, dig h (show (0 : Int) < 9 by decide) (by decide), Res.stm_ok, SRes.seq_next, List.set, ap_If, ap_TB, ap_2, dig h (show (0 : Int) < 4 by decide) (by decide), eqD_int, hc, decide_true, toB_bl, if_true, dig h (show (0 : Int) < 41 by decide) (by decide)]
  · obtain ⟨rs, y, q, hl⟩ := tail (x % 9) (x / 9 / 4) (by omega) (by omega)
    refine ⟨rs, y, ?_, hl⟩
    rw [← q]
    simp only [F_law_drawn_heap, runD, b_law_drawn_heap, ap_Seq, ap_Set, ap_Fn, ap_Args, ap_Args0, startE_a2, List.replicate, ap_Var0, ap_VarS, ap_C, Res.bind_ok, dig h (show (0 : Int) < 9 by decide) (by decide), Res.stm_ok, SRes.seq_next, List.set, ap_If, ap_TB, ap_2, dig h (show (0 : Int) < 4 by decide) (by decide), eqD_int, hc, decide_false, toB_bl, Bool.false_eq_true, if_false, ap_Next]
theorem rpTab : Rp tabD 3 := Rp.int.pr rpRow.tp
theorem fold_len : ∀ (qs : List (List (Int × Int))) (f : List (Int × Int)), (qs.foldl (fun f x => hp (f ++ x)) f).length ≤ f.length + (qs.map List.length).sum := by
  intro qs
  induction qs with
  | nil => exact fun f => Nat.le_refl _
  | cons q qs ih =>
    intro f
    have h1 := ih (hp (f ++ q))
    have h2 := tog_len f q
    rw [List.foldl_cons, List.map_cons, List.sum_cons]
    omega
noncomputable abbrev Tb := Int × List (Int × Int)
noncomputable def plc (ds : List (Int → Int)) (a : Int) : List Int := ds.map fun d => d a
noncomputable def SB (ds : List (Int → Int)) (l m : List Int) : Prop := (∀ p : List Int, (m.filter fun a => decide (plc ds a = p)) = l.filter fun a => decide (plc ds a = p)) ∧ m.Pairwise fun a b => plc ds a ≤ plc ds b
theorem sort_uniq {key : Int → List Int} : ∀ {m m' : List Int}, (∀ p : List Int, (m.filter fun a => decide (key a = p)) = m'.filter fun a => decide (key a = p)) → m.Pairwise (fun a b => key a ≤ key b) → m'.Pairwise (fun a b => key a ≤ key b) → m = m'
  | [], m', h, _, _ => by
    cases m' with
    | nil => rfl
    | cons b t =>
      have := h (key b)
      simp at this
  | a :: t, m', h, h1, h2 => by
    have mem : ∀ {x : Int} {u v : List Int}, ((u.filter fun a => decide (key a = key x)) = v.filter fun a => decide (key a = key x)) → x ∈ u → x ∈ v := fun {x u v} e hx => by
      have : x ∈ u.filter fun a => decide (key a = key x) := List.mem_filter.mpr ⟨hx, by simp⟩
      rw [e] at this
      exact (List.mem_filter.mp this).1
    have ha : a ∈ m' := mem (h (key a)) List.mem_cons_self
    cases m' with
    | nil => exact absurd ha List.not_mem_nil
    | cons b t' =>
      have hb : b ∈ a :: t := mem (h (key b)).symm List.mem_cons_self
      have hk : key a = key b := by
        rcases List.mem_cons.mp ha with e | ha
        · rw [e]
        · rcases List.mem_cons.mp hb with e | hb
          · rw [e]
          · exact List.le_antisymm ((List.pairwise_cons.mp h1).1 b hb) ((List.pairwise_cons.mp h2).1 a ha)
      have hf := h (key a)
      rw [List.filter_cons, List.filter_cons, if_pos (by simp), if_pos (by simp [hk])] at hf
      have e := (List.cons.inj hf).1
      subst e
      have ih := sort_uniq (m := t) (m' := t') (fun p => by
        by_cases hp : key a = p
        · subst hp
          exact (List.cons.inj hf).2
        · have := h p
          rw [List.filter_cons, List.filter_cons, if_neg (by simp [hp]), if_neg (by simp [hp])] at this
          exact this) (List.pairwise_cons.mp h1).2 (List.pairwise_cons.mp h2).2
      rw [ih]
theorem SB.uniq {ds : List (Int → Int)} {l m m' : List Int} (h : SB ds l m) (h' : SB ds l m') : m = m' := sort_uniq (fun p => (h.1 p).trans (h'.1 p).symm) h.2 h'.2
theorem SB.mem {ds : List (Int → Int)} {l m : List Int} (h : SB ds l m) {a : Int} : a ∈ m ↔ a ∈ l := by
  have e := h.1 (plc ds a)
  constructor
  · intro ha
    have : a ∈ m.filter fun b => decide (plc ds b = plc ds a) := List.mem_filter.mpr ⟨ha, by simp⟩
    rw [e] at this
    exact (List.mem_filter.mp this).1
  · intro ha
    have : a ∈ l.filter fun b => decide (plc ds b = plc ds a) := List.mem_filter.mpr ⟨ha, by simp⟩
    rw [← e] at this
    exact (List.mem_filter.mp this).1
theorem SB.nil (l : List Int) : SB [] l l := ⟨fun _ => rfl, List.pairwise_of_forall fun _ _ => List.le_refl _⟩
theorem SB.blk {d : Int → Int} {ds : List (Int → Int)} {l ss : List Int} (hs : ss.Pairwise (· < ·)) (hm : ∀ k ∈ l, d k ∈ ss) (M : Int → List Int) (h : ∀ s ∈ ss, SB ds (l.filter fun k => decide (d k = s)) (M s)) : SB (d :: ds) l (ss.flatMap M) := by
  have dm : ∀ s ∈ ss, ∀ a ∈ M s, d a = s := fun s hss a ha => by
    have := (h s hss).mem.mp ha
    exact of_decide_eq_true (List.mem_filter.mp this).2
  refine ⟨fun p => ?_, ?_⟩
  · cases p with
    | nil =>
      have e : ∀ xs : List Int, (xs.filter fun a => decide (plc (d :: ds) a = [])) = [] := fun xs => by
        rw [List.filter_eq_nil_iff]
        intro a _
        simp [plc]
      rw [e, e]
    | cons s0 p' =>
      have gen : ∀ us : List Int, us.Nodup → (∀ s ∈ us, s ∈ ss) → ((us.flatMap M).filter fun a => decide (plc (d :: ds) a = s0 :: p')) = if s0 ∈ us then l.filter (fun a => decide (plc (d :: ds) a = s0 :: p')) else [] := by
        intro us
        induction us with
        | nil => intro _ _; simp
        | cons s us ih =>
          intro hn hu
          rw [List.nodup_cons] at hn
          rw [List.flatMap_cons, List.filter_append, ih hn.2 fun x hx => hu x (List.mem_cons_of_mem _ hx)]
          have hss := hu s List.mem_cons_self
          by_cases e : s = s0
          · subst e
            rw [if_neg hn.1, if_pos List.mem_cons_self, List.append_nil]
            have e1 : ((M s).filter fun a => decide (plc (d :: ds) a = s :: p')) = (M s).filter fun a => decide (plc ds a = p') := List.filter_congr fun a ha => by
              have := dm s hss a ha
              exact decide_eq_decide.mpr (by simp [plc, this])
            rw [e1, (h s hss).1 p', List.filter_filter]
            refine List.filter_congr fun a _ => ?_
            by_cases z1 : d a = s <;> by_cases z2 : plc ds a = p' <;> simp [plc] at * <;> simp [z1, z2]
          · have e1 : ((M s).filter fun a => decide (plc (d :: ds) a = s0 :: p')) = [] := by
              rw [List.filter_eq_nil_iff]
              intro a ha
              have := dm s hss a ha
              simp [plc, this, e]
            rw [e1, List.nil_append]
            have : (s0 ∈ s :: us) ↔ s0 ∈ us := by simp [Ne.symm e]
            by_cases z : s0 ∈ us
            · rw [if_pos z, if_pos (this.mpr z)]
            · rw [if_neg z, if_neg fun y => z (this.mp y)]
      rw [gen ss (hs.imp fun {a b} h => by omega) fun _ h => h]
      by_cases z : s0 ∈ ss
      · rw [if_pos z]
      · rw [if_neg z]
        symm
        rw [List.filter_eq_nil_iff]
        intro a ha
        have := hm a ha
        simp only [plc, List.map_cons, decide_eq_true_eq, List.cons.injEq, not_and]
        intro e
        exact absurd (e ▸ this) z
  · rw [List.pairwise_flatMap]
    refine ⟨fun s hss => (h s hss).2.imp_of_mem fun {a b} ha hb r => ?_, hs.imp_of_mem fun {s s'} h1 h2 r x hx y hy => ?_⟩
    · show d a :: plc ds a ≤ d b :: plc ds b
      rw [List.cons_le_cons_iff]
      exact .inr ⟨(dm s hss a ha).trans (dm s hss b hb).symm, r⟩
    · show d x :: plc ds x ≤ d y :: plc ds y
      rw [List.cons_le_cons_iff]
      exact .inl (by rw [dm s h1 x hx, dm s' h2 y hy]; exact r)
theorem SB.by_ {ds : List (Int → Int)} {l : List Int} {ps : List (List Int)} (hn : ps.Nodup) (hp : ps.Pairwise (· ≤ ·)) (hm : ∀ a ∈ l, plc ds a ∈ ps) : SB ds l (ps.flatMap fun p => l.filter fun a => decide (plc ds a = p)) := by
  refine ⟨fun p0 => ?_, ?_⟩
  · have gen : ∀ us : List (List Int), us.Nodup → ((us.flatMap fun p => l.filter fun a => decide (plc ds a = p)).filter fun a => decide (plc ds a = p0)) = if p0 ∈ us then l.filter (fun a => decide (plc ds a = p0)) else [] := by
      intro us
      induction us with
      | nil => intro _; simp
      | cons s us ih =>
        intro hn
        rw [List.nodup_cons] at hn
        rw [List.flatMap_cons, List.filter_append, ih hn.2, List.filter_filter]
        by_cases e : s = p0
        · subst e
          rw [if_neg hn.1, if_pos List.mem_cons_self, List.append_nil]
          refine List.filter_congr fun a _ => ?_
          simp
        · have e1 : (l.filter fun a => decide (plc ds a = p0) && decide (plc ds a = s)) = [] := by
            rw [List.filter_eq_nil_iff]
            intro a _
            simp only [Bool.and_eq_true, decide_eq_true_eq, not_and]
            intro z z'
            exact e (z'.symm.trans z)
          rw [e1, List.nil_append]
          have : (p0 ∈ s :: us) ↔ p0 ∈ us := by simp [Ne.symm e]
          by_cases z : p0 ∈ us
          · rw [if_pos z, if_pos (this.mpr z)]
          · rw [if_neg z, if_neg fun y => z (this.mp y)]
    rw [gen ps hn]
    by_cases z : p0 ∈ ps
    · rw [if_pos z]
    · rw [if_neg z]
      symm
      rw [List.filter_eq_nil_iff]
      intro a ha
      simp only [decide_eq_true_eq]
      intro e
      exact absurd (e ▸ hm a ha) z
  · have pe : ∀ p, ∀ x ∈ (l.filter fun a => decide (plc ds a = p)), plc ds x = p := fun p x hx => of_decide_eq_true (List.mem_filter.mp hx).2
    rw [List.pairwise_flatMap]
    refine ⟨fun p _ => List.Pairwise.imp_of_mem (R := fun _ _ => True) (fun {a b} ha hb _ => by rw [pe p a ha, pe p b hb]; exact List.le_refl _) (List.pairwise_of_forall fun _ _ => trivial), hp.imp fun {p p'} r x hx y hy => by rw [pe p x hx, pe p' y hy]; exact r⟩
noncomputable def dd (t : Tb) : Int → Int := dOf t.2
noncomputable def psH (T : List Tb) (rs : List (Int × Int)) : List (Int × Int) := T.foldl (fun r t => thr (dd t) r) rs
theorem psH_SB : ∀ (T : List Tb) (rs : List (Int × Int)) (ds : List (Int → Int)) (l : List Int), Hf rs → SB ds l (lts rs) → Hf (psH T rs) ∧ SB ((T.map dd).reverse ++ ds) l (lts (psH T rs))
  | [], rs, ds, l, hf, h => ⟨hf, h⟩
  | t :: T, rs, ds, l, hf, h => by
    obtain ⟨t1, t2⟩ := thr_facts (dd t) hf.pos
    have sb : SB (dd t :: ds) l (lts (thr (dd t) rs)) := by
      rw [t2]
      refine SB.blk (spots_pw _ _) (fun k hk => thr_spots (dd t) k (h.mem.mpr hk)) _ fun s _ => ⟨fun p => ?_, h.2.filter _⟩
      have e : ∀ xs : List Int, ((xs.filter fun k => decide (dd t k = s)).filter fun a => decide (plc ds a = p)) = (xs.filter fun a => decide (plc ds a = p)).filter fun k => decide (dd t k = s) := fun xs => by
        rw [List.filter_filter, List.filter_filter]
        exact List.filter_congr fun a _ => Bool.and_comm _ _
      rw [e, e, h.1 p]
    obtain ⟨h1, h2⟩ := psH_SB T (thr (dd t) rs) (dd t :: ds) l t1 sb
    refine ⟨h1, ?_⟩
    rw [List.map_cons, List.reverse_cons, List.append_assoc]
    exact h2
noncomputable def csH : List Tb → List (Int × Int) → List (Int × Int)
  | [], rs => rs
  | t :: T, rs => ((spots (dd t) rs).map fun s => csH T (hp (rs.filter fun r => decide (dd t r.1 = s)))).foldl (fun f x => hp (f ++ x)) []
theorem csH_SB : ∀ (T : List Tb) (rs : List (Int × Int)), Hf rs → Hf (csH T rs) ∧ SB (T.map dd) (lts rs) (lts (csH T rs))
  | [], rs, hf => ⟨hf, SB.nil _⟩
  | t :: T, rs, hf => by
    obtain ⟨f1, f2⟩ := tog_facts ((spots (dd t) rs).map fun s => csH T (hp (rs.filter fun r => decide (dd t r.1 = s)))) [] Hf.nil
    refine ⟨f1, ?_⟩
    show SB (dd t :: T.map dd) (lts rs) (lts (List.foldl _ _ _))
    rw [f2]
    show SB (dd t :: T.map dd) (lts rs) ([] ++ _)
    rw [List.nil_append, List.flatMap_map]
    refine SB.blk (spots_pw _ _) (fun k hk => thr_spots (dd t) k hk) _ fun s _ => ?_
    obtain ⟨g1, g2⟩ := hp_facts (rs.filter fun r => decide (dd t r.1 = s))
    have := (csH_SB T _ g1).2
    rw [g2, ← lts_filter (fun k => decide (dd t k = s))] at this
    exact this
noncomputable def byW (ds : List (Int → Int)) (ps : List (List Int)) (rs : List (Int × Int)) : List (Int × Int) := ps.flatMap fun p => rs.filter fun r => decide (plc ds r.1 = p)
theorem byH_SB {ds : List (Int → Int)} {ps : List (List Int)} {rs : List (Int × Int)} (hn : ps.Nodup) (hp : ps.Pairwise (· ≤ ·)) (hm : ∀ r ∈ rs, plc ds r.1 ∈ ps) : Hf (Lw.hp (byW ds ps rs)) ∧ SB ds (lts rs) (lts (Lw.hp (byW ds ps rs))) := by
  obtain ⟨g1, g2⟩ := hp_facts (byW ds ps rs)
  refine ⟨g1, ?_⟩
  rw [g2]
  unfold byW
  rw [lts_flat]
  have e : (fun p => lts (rs.filter fun r => decide (plc ds r.1 = p))) = fun p => (lts rs).filter fun a => decide (plc ds a = p) := by
    funext p
    rw [lts_filter]
  rw [e]
  refine SB.by_ hn hp fun a ha => ?_
  obtain ⟨r, hr, e⟩ := List.mem_map.mp (mem_lts ha)
  rw [← e]
  exact hm r hr
theorem same_heap {ds : List (Int → Int)} {l : List Int} {x y : List (Int × Int)} (h : Hf x ∧ SB ds l (lts x)) (h' : Hf y ∧ SB ds l (lts y)) : x = y := h.1.uniq h'.1 (h.2.uniq h'.2)
noncomputable def Gd (T : List Tb) (rs : List (Int × Int)) : Prop := ∀ t ∈ T, ∀ r ∈ rs, r.1 ∈ t.2.map (·.1)
theorem gd_sub {T : List Tb} {rs xs : List (Int × Int)} (g : Gd T rs) (h : ∀ x ∈ xs, x.1 ∈ rs.map (·.1)) : Gd T xs := fun t ht x hx => by
  obtain ⟨r, hr, e⟩ := List.mem_map.mp (h x hx)
  rw [← e]
  exact g t ht r hr
theorem key_lts {xs : List (Int × Int)} {l : List Int} (hp : ∀ q ∈ xs, 0 < q.2) (h : ∀ k, k ∈ lts xs → k ∈ l) : ∀ x ∈ xs, x.1 ∈ l := fun x hx => h _ (lts_mem hp hx)
theorem passed_all_is (S : Sto) (a1 : Option D) (ys : List D) : ∀ (T : List Tb) (rs : List (Int × Int)), Hf rs → rs.length < 64 → Gd T rs → forD [2] (.nm 2) (.tmp ys) bpassed_all_1 (T.map tabD) [some (tpD rowD rs), a1, none] S = .next [some (tpD rowD (psH T rs)), a1, none] S
  | [], rs, _, _, _ => forD_nil trivial
  | t :: T, rs, hf, hl, g => by
    obtain ⟨t1, t2⟩ := thr_facts (dd t) hf.pos
    have tl := thr_len (dd t) rs
    obtain ⟨many, t⟩ := t
    have q := passed S rs t many hl hf.pos (g (many, t) List.mem_cons_self)
    have bt : bindT (.nm 2) (tabD (many, t)) [some (tpD rowD rs), a1, none] = some [some (tpD rowD rs), a1, some (tabD (many, t))] := rfl
    have tn : turn [2] (.nm 2) bpassed_all_1 (tabD (many, t)) [some (tpD rowD rs), a1, none] S = .next [some (tpD rowD (thr (dd (many, t)) rs)), a1, none] S := by
      simp only [turn, bt, bpassed_all_1, goS, q]
      rfl
    have sub : ∀ k, k ∈ lts (thr (dd (many, t)) rs) → k ∈ rs.map (·.1) := fun k hk => by
      rw [t2] at hk
      obtain ⟨s, _, hs⟩ := List.mem_flatMap.mp hk
      exact mem_lts (List.mem_filter.mp hs).1
    rw [List.map_cons, forD_cons (src := .tmp _) trivial, tn]
    exact passed_all_is S a1 ys T _ t1 (by omega) (gd_sub (fun u hu => g u (List.mem_cons_of_mem _ hu)) (key_lts t1.pos sub))
theorem pall (S : Sto) (T : List Tb) (rs : List (Int × Int)) (hf : Hf rs) (hl : rs.length < 64) (g : Gd T rs) : Fpassed_all [tpD rowD rs, tpD tabD T] S = .ok (tpD rowD (psH T rs)) S := by
  have q := passed_all_is S (some (tpD tabD T)) (T.map tabD) T rs hf hl g
  have f : sFor [2] (.nm 2) (iS (eVar 1)) bpassed_all_1 [some (tpD rowD rs), some (tpD tabD T), none] S = .next [some (tpD rowD (psH T rs)), some (tpD tabD T), none] S := by
    rw [forS_tup (xs := T.map tabD) rfl]
    exact q
  simp only [Fpassed_all, runD, bpassed_all, go0, goS, f]
  exact fin_same (rpRow.tp.gnd _)
theorem sum_le {α : Type} (f g : α → Nat) : ∀ xs : List α, (∀ x ∈ xs, f x ≤ g x) → (xs.map f).sum ≤ (xs.map g).sum
  | [], _ => Nat.le_refl _
  | x :: xs, h => by
    have h1 := sum_le f g xs fun y hy => h y (List.mem_cons_of_mem _ hy)
    have h2 := h x List.mem_cons_self
    rw [List.map_cons, List.map_cons, List.sum_cons, List.sum_cons]
    omega
theorem parts_len (d : Int → Int) (rs : List (Int × Int)) : (((spots d rs).map fun s => Lw.hp (rs.filter fun r => decide (d r.1 = s))).map List.length).sum ≤ rs.length := by
  have h1 := lens_le (spots d rs) fun s => rs.filter fun r => decide (d r.1 = s)
  have h2 := flat_len (fun r : Int × Int => d r.1) (spots d rs) rs ((spots_pw d rs).imp fun {a b} h => by omega)
  omega
theorem csH_len : ∀ (T : List Tb) (rs : List (Int × Int)), (csH T rs).length ≤ rs.length
  | [], _ => Nat.le_refl _
  | t :: T, rs => by
    have h1 := fold_len ((spots (dd t) rs).map fun s => csH T (hp (rs.filter fun r => decide (dd t r.1 = s)))) []
    have h2 := sum_le (fun s => (csH T (hp (rs.filter fun r => decide (dd t r.1 = s)))).length) (fun s => (hp (rs.filter fun r => decide (dd t r.1 = s))).length) (spots (dd t) rs) fun s _ => csH_len T _
    have h3 := parts_len (dd t) rs
    rw [List.map_map] at h1 h3
    have e : csH (t :: T) rs = List.foldl (fun f x => Lw.hp (f ++ x)) [] ((spots (dd t) rs).map fun s => csH T (Lw.hp (rs.filter fun r => decide (dd t r.1 = s)))) := rfl
    rw [e]
    rw [List.length_nil] at h1
    have h2 : (List.map (List.length ∘ fun s => csH T (hp (rs.filter fun r => decide (dd t r.1 = s)))) (spots (dd t) rs)).sum ≤ (List.map (List.length ∘ fun s => hp (rs.filter fun r => decide (dd t r.1 = s))) (spots (dd t) rs)).sum := h2
    omega
theorem cascH (S : Sto) : ∀ (n : Nat) (T : List Tb) (rs : List (Int × Int)), T.length < n → rs.length < 64 → Hf rs → Gd T rs → Rcascaded n [tpD rowD rs, tpD tabD T] S = .ok (tpD rowD (csH T rs)) S := by
  intro n
  induction n with
  | zero => exact fun T rs h => absurd h (Nat.not_lt_zero _)
  | succ n ih =>
    intro T rs hT hl hf g
    have eq0 := rpTab.tp.eq (by decide) T [] S
    have eq0' : eqD false (tpD tabD T) (.tup []) S = .ok (.bl (decide (T = []))) S := eq0
    cases T with
    | nil =>
      rw [decide_eq_true rfl] at eq0'
      simp only [Rcascaded, runD, bcascaded, go0, goS, eq0', if_true]
      exact fin_same (rpRow.tp.gnd _)
    | cons t T =>
      rw [decide_eq_false (by simp)] at eq0'
      obtain ⟨many, t⟩ := t
      rw [List.length_cons] at hT
      have ix0 : ixD (tpD tabD ((many, t) :: T)) (.int 0) S = .ok (tabD (many, t)) S := by
        show ixD (.tup (tabD (many, t) :: T.map tabD)) _ S = _
        rw [ixD_tup, show (0 : Int) = ((0 : Nat) : Int) from rfl, atI_cast]
        rfl
      have sl : slD (tpD tabD ((many, t) :: T)) (some 1) none S = .ok (tpD tabD T) S := by
        show slD (.tup (tabD (many, t) :: T.map tabD)) (some ((1 : Nat) : Int)) none S = _
        rw [slD_tup, cut_from]
        rfl
      have p := parted S rs t many hl (g (many, t) List.mem_cons_self)
      have el : ((spots (dOf t) rs).map fun s => tpD rowD (Lw.hp (rs.filter fun r => decide (dOf t r.1 = s)))) = ((spots (dOf t) rs).map fun s => Lw.hp (rs.filter fun r => decide (dOf t r.1 = s))).map (tpD rowD) := by rw [List.map_map]; rfl
      rw [el] at p
      have pl := parts_len (dOf t) rs
      have lsp : (spots (dOf t) rs).length < 1000 := by
        have h2 := flat_len (fun r : Int × Int => dOf t r.1) (spots (dOf t) rs) rs ((spots_pw (dOf t) rs).imp fun {a b} h => by omega)
        have h3 : (spots (dOf t) rs).length ≤ ((spots (dOf t) rs).flatMap fun s => rs.filter fun r => decide (dOf t r.1 = s)).length := by
          rw [List.length_flatMap]
          have : ∀ ss : List Int, (∀ s ∈ ss, s ∈ spots (dOf t) rs) → ss.length ≤ (ss.map fun s => (rs.filter fun r => decide (dOf t r.1 = s)).length).sum := by
            intro ss
            induction ss with
            | nil => exact fun _ => Nat.le_refl _
            | cons s ss ih2 =>
              intro h
              obtain ⟨r, hr, e⟩ := mem_spots.mp (h s List.mem_cons_self)
              have h5 : 0 < (rs.filter fun r => decide (dOf t r.1 = s)).length := List.length_pos_of_mem (List.mem_filter.mpr ⟨hr, by simp [e]⟩)
              have h6 := ih2 fun z hz => h z (List.mem_cons_of_mem _ hz)
              rw [List.length_cons, List.map_cons, List.sum_cons]
              omega
          exact this _ fun s hs => hs
        omega
      obtain ⟨ps, hp0⟩ : ∃ ps, ps = (spots (dOf t) rs).map fun s => Lw.hp (rs.filter fun r => decide (dOf t r.1 = s)) := ⟨_, rfl⟩
      have lps : ps.length < 1000 := by rw [hp0, List.length_map]; exact lsp
      rw [← hp0] at p pl
      have hps : ∀ q ∈ ps, Hf q ∧ q.length ≤ rs.length ∧ ∀ r ∈ q, r.1 ∈ rs.map (·.1) := fun q hq => by
        rw [hp0] at hq
        obtain ⟨s, _, rfl⟩ := List.mem_map.mp hq
        obtain ⟨h1, h2⟩ := hp_facts (rs.filter fun r => decide (dOf t r.1 = s))
        refine ⟨h1, Nat.le_trans (hp_len _) (List.length_filter_le _ _), key_lts h1.pos fun k hk => ?_⟩
        rw [h2] at hk
        obtain ⟨r, hr, e⟩ := List.mem_map.mp (mem_lts hk)
        exact List.mem_map.mpr ⟨r, (List.mem_filter.mp hr).1, e⟩
      have lc : lcD (.nm 2) (.tmp (ps.map (tpD rowD))) tYesD (eFn (Rcascaded n) [(eVar 2), (eSl (eVar 1) (pE (eC (.int 1))) pN)]) [some (tpD rowD rs), some (tpD tabD ((many, t) :: T)), none] (ps.map (tpD rowD)) S = .ok (ps.map fun q => tpD rowD (csH T q)) S := lc_all (tpD rowD) (fun q => tpD rowD (csH T q)) ps fun q hq => ⟨[some (tpD rowD rs), some (tpD tabD ((many, t) :: T)), some (tpD rowD q)], rfl, by
        obtain ⟨h1, h2, h3⟩ := hps q hq
        have := ih T q (by omega) (by omega) h1 (gd_sub (fun u hu => g u (List.mem_cons_of_mem _ hu)) h3)
        simp only [goS, sl, this]⟩
      have fe : (eFn Fparted [(eVar 0), (e2 ixD (eVar 1) (eC (.int 0)))]) [some (tpD rowD rs), some (tpD tabD ((many, t) :: T)), none] S = .ok (.lst (ps.map (tpD rowD))) S := by
        simp only [goS, ix0, p]
      have n1 := nLcS_lst (vs := [2]) fe (by rw [List.length_map]; omega) lc
      have e2 : (ps.map fun q => tpD rowD (csH T q)) = (ps.map (csH T)).map (tpD rowD) := by rw [List.map_map]; rfl
      rw [e2] at n1
      have sm : ((ps.map (csH T)).map List.length).sum ≤ rs.length := by
        have h2 := sum_le (fun q => (csH T q).length) List.length ps fun q _ => csH_len T q
        rw [List.map_map]
        exact Nat.le_trans h2 pl
      have tg := together S (ps.map (csH T)) (by omega)
      have ec : csH ((many, t) :: T) rs = (ps.map (csH T)).foldl (fun f x => Lw.hp (f ++ x)) [] := by
        rw [hp0, List.map_map]
        rfl
      rw [ec]
      simp only [Rcascaded, runD, bcascaded, go0, goS, eq0', Bool.false_eq_true, if_false, n1, anoD_lst, Res.bind_ok, tg]
      exact fin_same (rpRow.tp.gnd _)
noncomputable abbrev Gp := List (List Int × List (Int × Int))
noncomputable def gT (gs : Gp) (p : List Int) : List (Int × Int) := ((gs.find? fun g => decide (g.1 = p)).map (·.2)).getD []
noncomputable def kvT : Nat → Gp → List (List Int × D)
  | _, [] => []
  | n, g :: gs => (g.1, .ref n) :: kvT (n + 1) gs
noncomputable def stT (S : Sto) (gs : Gp) : Sto := S ++ DO.tdc (kvT (S.length + 1) gs) :: gs.map fun g => DO.lst (g.2.map rowD)
theorem kvT_app : ∀ (n : Nat) (a b : Gp), kvT n (a ++ b) = kvT n a ++ kvT (n + a.length) b
  | _, [], _ => rfl
  | n, g :: a, b => by
    rw [List.cons_append, kvT, kvT, kvT_app (n + 1) a b, List.length_cons, List.cons_append, show n + 1 + a.length = n + (a.length + 1) by omega]
theorem kvT_len : ∀ (n : Nat) (a : Gp), (kvT n a).length = a.length
  | _, [] => rfl
  | n, g :: a => by rw [kvT, List.length_cons, List.length_cons, kvT_len]
theorem kvT_keys : ∀ (n : Nat) (a : Gp), (kvT n a).map (·.1) = a.map (·.1)
  | _, [] => rfl
  | n, g :: a => by rw [kvT, List.map_cons, List.map_cons, kvT_keys]
theorem kvT_get : ∀ (n : Nat) (l1 : Gp) {p : List Int} (v : List (Int × Int)) (l2 : Gp), p ∉ l1.map (·.1) → getT (kvT n (l1 ++ (p, v) :: l2)) p = some (.ref (n + l1.length))
  | n, [], p, v, l2, _ => by
    show (List.find? _ ((p, D.ref n) :: _)).map _ = _
    rw [List.find?_cons, decide_eq_true rfl]
    rfl
  | n, g :: l1, p, v, l2, h => by
    rw [List.map_cons, List.mem_cons, not_or] at h
    have ih := kvT_get (n + 1) l1 v l2 h.2
    show (List.find? _ ((g.1, D.ref n) :: kvT (n + 1) (l1 ++ (p, v) :: l2))).map _ = _
    rw [List.find?_cons, decide_eq_false (fun e => h.1 e.symm), List.length_cons, show n + (l1.length + 1) = n + 1 + l1.length by omega]
    exact ih
theorem kvT_none : ∀ (n : Nat) (l : Gp) {p : List Int}, p ∉ l.map (·.1) → getT (kvT n l) p = none
  | n, [], p, _ => rfl
  | n, g :: l, p, h => by
    rw [List.map_cons, List.mem_cons, not_or] at h
    show (List.find? _ ((g.1, D.ref n) :: kvT (n + 1) l)).map _ = _
    rw [List.find?_cons, decide_eq_false (fun e => h.1 e.symm)]
    exact kvT_none (n + 1) l h.2
theorem split_key : ∀ {gs : Gp} {p : List Int}, p ∈ gs.map (·.1) → ∃ l1 v l2, gs = l1 ++ (p, v) :: l2 ∧ p ∉ l1.map (·.1)
  | [], _, h => absurd h List.not_mem_nil
  | g :: gs, p, h => by
    by_cases e : g.1 = p
    · exact ⟨[], g.2, gs, by rw [← e]; rfl, List.not_mem_nil⟩
    · have h' : p ∈ gs.map (·.1) := by
        rcases List.mem_cons.mp h with z | z
        · exact absurd z.symm e
        · exact z
      obtain ⟨l1, v, l2, e1, e2⟩ := split_key h'
      refine ⟨g :: l1, v, l2, by rw [e1]; rfl, ?_⟩
      rw [List.map_cons, List.mem_cons, not_or]
      exact ⟨fun z => e z.symm, e2⟩
theorem gT_at {l1 l2 : Gp} {p : List Int} {v : List (Int × Int)} (h : p ∉ l1.map (·.1)) : gT (l1 ++ (p, v) :: l2) p = v := by
  unfold gT
  rw [List.find?_append, List.find?_eq_none.mpr (fun g hg e => h (List.mem_map.mpr ⟨g, hg, of_decide_eq_true e⟩)), Option.none_or, List.find?_cons, decide_eq_true rfl]
  rfl
theorem gT_ne {l1 l2 : Gp} {p q : List Int} {v w : List (Int × Int)} (h : q ≠ p) : gT (l1 ++ (p, v) :: l2) q = gT (l1 ++ (p, w) :: l2) q := by
  unfold gT
  rw [List.find?_append, List.find?_append, List.find?_cons, List.find?_cons, decide_eq_false (show ¬ (p, v).1 = q from fun e => h e.symm)]
theorem gT_skip {l1 : Gp} {p q : List Int} {v : List (Int × Int)} (h : q ≠ p) : gT (l1 ++ [(p, v)]) q = gT l1 q := by
  unfold gT
  rw [List.find?_append, List.find?_cons, decide_eq_false (show ¬ (p, v).1 = q from fun e => h e.symm)]
  simp
theorem gT_no {l : Gp} {p : List Int} (h : p ∉ l.map (·.1)) : gT l p = [] := by
  unfold gT
  rw [List.find?_eq_none.mpr (fun g hg e => h (List.mem_map.mpr ⟨g, hg, of_decide_eq_true e⟩))]
  rfl
theorem stT_at (S : Sto) (gs : Gp) : (stT S gs)[S.length]? = some (.tdc (kvT (S.length + 1) gs)) := by
  unfold stT
  rw [List.getElem?_append_right (Nat.le_refl _), Nat.sub_self]
  rfl
theorem stT_lst (S : Sto) (l1 l2 : Gp) (p : List Int) (v : List (Int × Int)) : (stT S (l1 ++ (p, v) :: l2))[S.length + 1 + l1.length]? = some (.lst (v.map rowD)) := by
  unfold stT
  rw [List.map_append, List.map_cons]
  have := mid_at (S := S) (A := l1.map fun g => DO.lst (g.2.map rowD)) (B := l2.map fun g => DO.lst (g.2.map rowD)) (o := DO.tdc (kvT (S.length + 1) (l1 ++ (p, v) :: l2))) (x := DO.lst (v.map rowD))
  rw [List.length_map] at this
  exact this
theorem stT_set (S : Sto) (l1 l2 : Gp) (p : List Int) (v w : List (Int × Int)) : (stT S (l1 ++ (p, v) :: l2)).set (S.length + 1 + l1.length) (.lst (w.map rowD)) = stT S (l1 ++ (p, w) :: l2) := by
  unfold stT
  rw [List.map_append, List.map_cons, List.map_append, List.map_cons]
  have := mid_set (S := S) (A := l1.map fun g => DO.lst (g.2.map rowD)) (B := l2.map fun g => DO.lst (g.2.map rowD)) (o := DO.tdc (kvT (S.length + 1) (l1 ++ (p, v) :: l2))) (x := DO.lst (v.map rowD)) (y := DO.lst (w.map rowD))
  rw [List.length_map] at this
  rw [this]
  have e : kvT (S.length + 1) (l1 ++ (p, v) :: l2) = kvT (S.length + 1) (l1 ++ (p, w) :: l2) := by
    rw [kvT_app, kvT_app]
    rfl
  rw [e]
theorem stT_new (S : Sto) (gs : Gp) (p : List Int) : ((stT S gs) ++ [DO.lst []]).set S.length (.tdc (kvT (S.length + 1) gs ++ [(p, .ref (stT S gs).length)])) = stT S (gs ++ [(p, [])]) := by
  have ln : (stT S gs).length = S.length + 1 + gs.length := by
    unfold stT
    rw [List.length_append, List.length_cons, List.length_map]
    omega
  rw [ln]
  unfold stT
  rw [kvT_app, List.map_append, List.append_assoc, List.set_append_right _ _ (Nat.le_refl _), Nat.sub_self]
  rfl
/-- o.setdefault(p, []) -/
theorem setd_T (S : Sto) (gs : Gp) (p : List Int) (hl : gs.length < 1000) : ∃ l1 v l2, setdT (.ref S.length) (tupI p) (stT S gs) = .ok (.ref (S.length + 1 + l1.length)) (stT S (l1 ++ (p, v) :: l2)) ∧ p ∉ l1.map (·.1) ∧ ((gs = l1 ++ (p, v) :: l2) ∨ (gs = l1 ∧ v = [] ∧ l2 = [])) := by
  have t := tdcOf_at (stT_at S gs)
  have kt := keyT_tup p
  have ll : (kvT (S.length + 1) gs).length < 100000 := by rw [kvT_len]; omega
  by_cases h : p ∈ gs.map (·.1)
  · obtain ⟨l1, v, l2, e, n⟩ := split_key h
    refine ⟨l1, v, l2, ?_, n, .inl e⟩
    unfold setdT
    simp only [t, kt, ll, if_true]
    rw [e, kvT_get _ _ _ _ n]
  · refine ⟨gs, [], [], ?_, h, .inr ⟨rfl, rfl, rfl⟩⟩
    unfold setdT
    simp only [t, kt, ll, if_true, kvT_none _ _ h, stT_new]
    congr 2
    unfold stT
    rw [List.length_append, List.length_cons, List.length_map]
    omega
structure GI (T : List Tb) (xs : List (Int × Int)) (gs : Gp) : Prop where
  nd : (gs.map (·.1)).Nodup
  get : ∀ p, gT gs p = xs.filter fun r => decide (plc (T.map dd) r.1 = p)
  mem : ∀ p, p ∈ gs.map (·.1) ↔ ∃ r ∈ xs, plc (T.map dd) r.1 = p
  len : gs.length ≤ xs.length
theorem GI.nil (T : List Tb) : GI T [] [] := ⟨List.nodup_nil, fun p => rfl, fun p => by simp, Nat.le_refl _⟩
theorem GI.add {T : List Tb} {xs : List (Int × Int)} {gs l1 l2 : Gp} {r : Int × Int} {v : List (Int × Int)} (h : GI T xs gs) (hn : plc (T.map dd) r.1 ∉ l1.map (·.1)) (hc : (gs = l1 ++ (plc (T.map dd) r.1, v) :: l2) ∨ (gs = l1 ∧ v = [] ∧ l2 = [])) : GI T (xs ++ [r]) (l1 ++ (plc (T.map dd) r.1, v ++ [r]) :: l2) := by
  have fl : ∀ p, ((xs ++ [r]).filter fun q => decide (plc (T.map dd) q.1 = p)) = (xs.filter fun q => decide (plc (T.map dd) q.1 = p)) ++ if plc (T.map dd) r.1 = p then [r] else [] := fun p => by
    rw [List.filter_append, List.filter_cons, List.filter_nil]
    by_cases e : plc (T.map dd) r.1 = p
    · rw [if_pos (by simp [e]), if_pos e]
    · rw [if_neg (by simp [e]), if_neg e]
  rcases hc with e | ⟨e, ev, el⟩
  · subst e
    have kk : (l1 ++ (plc (T.map dd) r.1, v ++ [r]) :: l2).map (·.1) = (l1 ++ (plc (T.map dd) r.1, v) :: l2).map (·.1) := by simp
    refine ⟨by rw [kk]; exact h.nd, fun p => ?_, fun p => ?_, ?_⟩
    · rw [fl]
      by_cases e : plc (T.map dd) r.1 = p
      · subst e
        rw [gT_at hn, if_pos rfl, ← h.get, gT_at hn]
      · rw [gT_ne (w := v) (fun z => e z.symm), h.get, if_neg e, List.append_nil]
    · rw [kk, h.mem]
      constructor
      · rintro ⟨q, hq, e⟩
        exact ⟨q, List.mem_append_left _ hq, e⟩
      · rintro ⟨q, hq, e⟩
        rcases List.mem_append.mp hq with hq | hq
        · exact ⟨q, hq, e⟩
        · rw [List.mem_singleton.mp hq] at e
          exact (h.mem p).mp (by rw [← e]; simp)
    · have := h.len
      simp only [List.length_append, List.length_cons, List.length_nil] at this ⊢
      omega
  · subst e
    subst ev
    subst el
    refine ⟨?_, fun p => ?_, fun p => ?_, ?_⟩
    · rw [List.map_append, List.map_cons, List.map_nil]
      exact List.nodup_append.mpr ⟨h.nd, by simp, fun a ha b hb => by
        rw [List.mem_singleton.mp hb]
        intro z
        have z : a = plc (T.map dd) r.1 := z
        rw [z] at ha
        exact hn ha⟩
    · rw [fl]
      by_cases e : plc (T.map dd) r.1 = p
      · subst e
        rw [gT_at hn, if_pos rfl, ← h.get, gT_no hn]
      · rw [gT_skip (fun z => e z.symm), h.get, if_neg e, List.append_nil]
    · rw [List.map_append, List.mem_append, h.mem]
      constructor
      · rintro (⟨q, hq, e⟩ | z)
        · exact ⟨q, List.mem_append_left _ hq, e⟩
        · exact ⟨r, by simp, by simp at z; exact z.symm⟩
      · rintro ⟨q, hq, e⟩
        rcases List.mem_append.mp hq with hq | hq
        · exact .inl ⟨q, hq, e⟩
        · rw [List.mem_singleton.mp hq] at e
          exact .inr (by simp [e])
    · have := h.len
      simp only [List.length_append, List.length_cons, List.length_nil] at this ⊢
      omega
/-- the place of a row -/
theorem place_is (T : List Tb) (r : Int × Int) (hg : ∀ t ∈ T, r.1 ∈ t.2.map (·.1)) (hl : T.length < 1000) (a0 a2 a4 a5 : Option D) (S : Sto) : nLc [6] (.nm 6) (iS (eVar 1)) tYesD (e2 ixD (eAno (nDctP (e2 ixD (eVar 6) (eC (.int 1))))) (e2 ixD (eVar 3) (eC (.int 0)))) [a0, some (tpD tabD T), a2, some (rowD r), a4, a5, none] S = .ok (.lst ((plc (T.map dd) r.1).map D.int)) S := by
  refine nLcS_tup (xs := T.map tabD) rfl (by rw [List.length_map]; omega) ?_
  have e : (plc (T.map dd) r.1).map D.int = T.map fun t => D.int (dd t r.1) := by
    unfold plc
    rw [List.map_map, List.map_map]
    rfl
  rw [e]
  refine lc_all tabD (fun t => D.int (dd t r.1)) T fun t ht => ⟨[a0, some (tpD tabD T), a2, some (rowD r), a4, a5, some (tabD t)], rfl, ?_⟩
  obtain ⟨many, t⟩ := t
  have i1 : ixD (tabD (many, t)) (.int 1) S = .ok (tpD rowD t) S := rfl
  have i0 : ixD (rowD r) (.int 0) S = .ok (.int r.1) S := rfl
  have i2 : ixD (.dct (dz (homeZ t))) (.int r.1) S = .ok (.int (dOf t r.1)) S := ixD_dct dcOf_dct (home_at (hg (many, t) ht))
  have an : anoD (.dct (dz (homeZ t))) S = .ok (.dct (dz (homeZ t))) S := rfl
  simp only [goS, ap_nDctP, i1, dct_rows, an, Res.bind_ok, i0, i2]
  rfl
theorem by_turn (S : Sto) (T : List Tb) (hT : T.length < 1000) (a0 a5 : Option D) {xs : List (Int × Int)} {gs : Gp} (h : GI T xs gs) (hl : xs.length < 900) (r : Int × Int) (hg : ∀ t ∈ T, r.1 ∈ t.2.map (·.1)) : ∃ gs', turn [3, 4] (.nm 3) b_law_by_1 (rowD r) [a0, some (tpD tabD T), some (.ref S.length), none, none, a5, none] (stT S gs) = .next [a0, some (tpD tabD T), some (.ref S.length), none, none, a5, none] (stT S gs') ∧ GI T (xs ++ [r]) gs' := by
  obtain ⟨l1, v, l2, q, hn, hc⟩ := setd_T S gs (plc (T.map dd) r.1) (by have := h.len; omega)
  refine ⟨_, ?_, h.add hn hc⟩
  have pl := place_is T r hg hT a0 (some (.ref S.length)) none a5 (stT S gs)
  have bt : bindT (.nm 3) (rowD r) [a0, some (tpD tabD T), some (.ref S.length), none, none, a5, none] = some [a0, some (tpD tabD T), some (.ref S.length), some (rowD r), none, a5, none] := rfl
  have t := tdcOf_at (stT_at S gs)
  have at1 := stT_lst S l1 l2 (plc (T.map dd) r.1) v
  have it := isT_ref at1
  have lv : v.length < 1000 := by
    have e : gT (l1 ++ (plc (T.map dd) r.1, v) :: l2) (plc (T.map dd) r.1) = v := gT_at hn
    rcases hc with e2 | ⟨_, e2, _⟩
    · rw [← e2, h.get] at e
      rw [← e]
      exact Nat.lt_of_le_of_lt (List.length_filter_le _ _) (by omega)
    · rw [e2]; decide
  have ap := appD_ref (y := rowD r) at1 (Pu.sz (by rw [List.length_map]; omega))
  have ev : (v.map rowD) ++ [rowD r] = (v ++ [r]).map rowD := by simp
  rw [ev, stT_set] at ap
  simp only [turn, bt, b_law_by_1, goS, ap_Ano, pl, anoD_lst, Res.bind_ok, tupD_lst, ap_SdT, t, Option.isSome_some, if_true, q, it, ap]
theorem by_loop (S : Sto) (T : List Tb) (hT : T.length < 1000) (a0 a5 : Option D) (ys : List D) : ∀ (rs xs : List (Int × Int)) (gs : Gp), GI T xs gs → xs.length + rs.length < 900 → Gd T rs → ∃ gs', forD [3, 4] (.nm 3) (.tmp ys) b_law_by_1 (rs.map rowD) [a0, some (tpD tabD T), some (.ref S.length), none, none, a5, none] (stT S gs) = .next [a0, some (tpD tabD T), some (.ref S.length), none, none, a5, none] (stT S gs') ∧ GI T (xs ++ rs) gs'
  | [], xs, gs, h, _, _ => ⟨gs, forD_nil trivial, by rw [List.append_nil]; exact h⟩
  | r :: rs, xs, gs, h, hl, g => by
    rw [List.length_cons] at hl
    obtain ⟨gs1, q1, h1⟩ := by_turn S T hT a0 a5 h (by omega) r fun t ht => g t ht r List.mem_cons_self
    obtain ⟨gs2, q2, h2⟩ := by_loop S T hT a0 a5 ys rs (xs ++ [r]) gs1 h1 (by rw [List.length_append, List.length_singleton]; omega) fun t ht x hx => g t ht x (List.mem_cons_of_mem _ hx)
    refine ⟨gs2, ?_, by rw [List.append_assoc] at h2; exact h2⟩
    rw [List.map_cons, forD_cons (src := .tmp _) trivial, q1]
    exact q2
theorem addLR {S : Sto} {k : Nat} {xs ys : List D} (h : S[k]? = some (.lst ys)) (hl : xs.length + ys.length < 1000000) : addD (.lst xs) (.ref k) S = .ok (.lst (xs ++ ys)) S := by
  have e : addD (.lst xs) (.ref k) S = addD (.lst xs) (.lst ys) S := by
    show catL (lvOf S (.lst xs)) (lvOf S (.ref k)) S = catL (lvOf S (.lst xs)) (lvOf S (.lst ys)) S
    have : lvOf S (.ref k) = lvOf S (.lst ys) := by simp [lvOf, h]
    rw [this]
  rw [e]
  exact addL hl
theorem by_join (S : Sto) (gs : Gp) (a0 a1 : Option D) (ys : List D) : ∀ (ps : List (List Int)) (W : List (Int × Int)), (∀ p ∈ ps, p ∈ gs.map (·.1)) → W.length + (ps.flatMap (gT gs)).length < 100000 → forD [4] (.nm 4) (.tmp ys) b_law_by_2 (ps.map tupI) [a0, a1, some (.ref S.length), none, none, some (.lst (W.map rowD)), none] (stT S gs) = .next [a0, a1, some (.ref S.length), none, none, some (.lst ((W ++ ps.flatMap (gT gs)).map rowD)), none] (stT S gs)
  | [], W, _, _ => by
    rw [List.flatMap_nil, List.append_nil]
    exact forD_nil trivial
  | p :: ps, W, h, hl => by
    rw [List.flatMap_cons, List.length_append] at hl
    obtain ⟨l1, v, l2, e, n⟩ := split_key (h p List.mem_cons_self)
    have hv : gT gs p = v := by rw [e, gT_at n]
    have t := tdcOf_at (stT_at S gs)
    have kt := keyT_tup p
    have i : ixT (.ref S.length) (tupI p) (stT S gs) = .ok (.ref (S.length + 1 + l1.length)) (stT S gs) := by
      unfold ixT
      simp only [t, kt]
      rw [e, kvT_get _ _ _ _ n]
      rfl
    have at1 : (stT S gs)[S.length + 1 + l1.length]? = some (.lst (v.map rowD)) := by rw [e]; exact stT_lst S l1 l2 p v
    have a := addLR (xs := W.map rowD) at1 (by rw [List.length_map, List.length_map, ← hv]; omega)
    rw [← List.map_append] at a
    have bt : bindT (.nm 4) (tupI p) [a0, a1, some (.ref S.length), none, none, some (.lst (W.map rowD)), none] = some [a0, a1, some (.ref S.length), none, some (tupI p), some (.lst (W.map rowD)), none] := rfl
    have tn : turn [4] (.nm 4) b_law_by_2 (tupI p) [a0, a1, some (.ref S.length), none, none, some (.lst (W.map rowD)), none] (stT S gs) = .next [a0, a1, some (.ref S.length), none, none, some (.lst ((W ++ v).map rowD)), none] (stT S gs) := by
      simp only [turn, bt, b_law_by_2, goS, i, a]
    have ih := by_join S gs a0 a1 ys ps (W ++ v) (fun q hq => h q (List.mem_cons_of_mem _ hq)) (by rw [List.length_append, ← hv]; omega)
    rw [List.map_cons, forD_cons (src := .tmp _) trivial, tn, List.flatMap_cons, hv, ← List.append_assoc]
    exact ih
theorem leK_tr : ∀ a b c : List Int, leK a b = true → leK b c = true → leK a c = true := fun a b c h1 h2 => decide_eq_true (List.le_trans (of_decide_eq_true h1) (of_decide_eq_true h2))
theorem leK_tot : ∀ a b : List Int, (leK a b || leK b a) = true := fun a b => by
  rcases List.le_total a b with h | h
  · simp [leK, h]
  · simp [leK, h]
theorem sortT_pw (ks : List (List Int)) : (sortT ks).Pairwise (· ≤ ·) := (List.pairwise_mergeSort leK_tr leK_tot ks).imp fun h => of_decide_eq_true h
theorem sortT_perm (ks : List (List Int)) : (sortT ks).Perm ks := List.mergeSort_perm ks leK
theorem by_is (S : Sto) (T : List Tb) (hT : T.length < 1000) (rs : List (Int × Int)) (hl : rs.length < 64) (g : Gd T rs) : ∃ ps : List (List Int), ps.Nodup ∧ ps.Pairwise (· ≤ ·) ∧ (∀ r ∈ rs, plc (T.map dd) r.1 ∈ ps) ∧ F_law_by [tpD rowD rs, tpD tabD T] S = .ok (tpD rowD (Lw.hp (byW (T.map dd) ps rs))) S := by
  obtain ⟨gs, q, h⟩ := by_loop S T hT (some (tpD rowD rs)) none (rs.map rowD) rs [] [] (GI.nil T) (by rw [List.length_nil]; omega) g
  rw [List.nil_append] at h
  have pm := sortT_perm (gs.map (·.1))
  refine ⟨sortT (gs.map (·.1)), pm.nodup_iff.mpr h.nd, sortT_pw _, fun r hr => pm.mem_iff.mpr ((h.mem _).mpr ⟨r, hr, rfl⟩), ?_⟩
  have ew : (sortT (gs.map (·.1))).flatMap (gT gs) = byW (T.map dd) (sortT (gs.map (·.1))) rs := by
    unfold byW
    congr 1
    funext p
    exact h.get p
  have lw : ((sortT (gs.map (·.1))).flatMap (gT gs)).length < 10000 := by
    have hm : ∀ p ∈ sortT (gs.map (·.1)), (gT gs p).length ≤ 64 := fun p _ => by
      rw [h.get]
      exact Nat.le_trans (List.length_filter_le _ _) (by omega)
    have : ∀ ps : List (List Int), (∀ p ∈ ps, (gT gs p).length ≤ 64) → (ps.flatMap (gT gs)).length ≤ ps.length * 64 := by
      intro ps
      induction ps with
      | nil => intro _; simp
      | cons p ps ih =>
        intro hp
        have h1 := ih fun x hx => hp x (List.mem_cons_of_mem _ hx)
        have h2 := hp p List.mem_cons_self
        rw [List.flatMap_cons, List.length_append, List.length_cons]
        omega
    have h1 := this _ hm
    rw [pm.length_eq, List.length_map] at h1
    have := h.len
    omega
  have f1 : sFor [3, 4] (.nm 3) (iS (eVar 0)) b_law_by_1 [some (tpD rowD rs), some (tpD tabD T), some (.ref S.length), none, none, none, none] (S ++ [.tdc []]) = .next [some (tpD rowD rs), some (tpD tabD T), some (.ref S.length), none, none, none, none] (stT S gs) := by
    rw [forS_tup (xs := rs.map rowD) rfl]
    exact q
  have st : nSortT (eVar 2) [some (tpD rowD rs), some (tpD tabD T), some (.ref S.length), none, none, some (.lst []), none] (stT S gs) = .ok (.lst ((sortT (gs.map (·.1))).map tupI)) (stT S gs) := by
    have t := tdcOf_at (stT_at S gs)
    have e0 : eVar 2 [some (tpD rowD rs), some (tpD tabD T), some (.ref S.length), none, none, some (.lst []), none] (stT S gs) = .ok (.ref S.length) (stT S gs) := rfl
    rw [ap_nSortT, e0, Res.bind_ok]
    unfold sortTD
    rw [t]
    simp only
    have hk : ∀ x ∈ kvT (S.length + 1) gs, x.1 ∈ gs.map (·.1) := fun x hx => by
      rw [← kvT_keys (S.length + 1)]
      exact List.mem_map.mpr ⟨x, hx, rfl⟩
    have nl : (kvT (S.length + 1) gs).length < 4000 := by rw [kvT_len]; have := h.len; omega
    have cond : (∀ x ∈ kvT (S.length + 1) gs, x.1 ≠ []) ∨ (kvT (S.length + 1) gs).length ≤ 1 := by
      cases T with
      | nil =>
        refine .inr ?_
        rw [kvT_len]
        have a : ∀ p ∈ gs.map (·.1), p = [] := fun p hp => by
          obtain ⟨r, _, e⟩ := (h.mem p).mp hp
          exact e.symm
        have nd := h.nd
        rw [← List.length_map (f := fun x : List Int × List (Int × Int) => x.1)]
        match hh : gs.map (·.1) with
        | [] => rw [hh]; decide
        | [_] => rw [hh]; exact Nat.le_refl _
        | x :: y :: l =>
          rw [hh] at nd a
          have e1 := a x List.mem_cons_self
          have e2 := a y (List.mem_cons_of_mem _ List.mem_cons_self)
          rw [List.nodup_cons] at nd
          exact absurd (by rw [e1, e2]; exact List.mem_cons_self) nd.1
      | cons t T =>
        refine .inl fun x hx e => ?_
        obtain ⟨r, _, er⟩ := (h.mem x.1).mp (hk x hx)
        rw [e] at er
        cases er
    rw [if_pos ⟨nl, cond⟩, kvT_keys]
  have f2 : sFor [4] (.nm 4) (iS (eAno (nSortT (eVar 2)))) b_law_by_2 [some (tpD rowD rs), some (tpD tabD T), some (.ref S.length), none, none, some (.lst []), none] (stT S gs) = .next [some (tpD rowD rs), some (tpD tabD T), some (.ref S.length), none, none, some (.lst ((byW (T.map dd) (sortT (gs.map (·.1))) rs).map rowD)), none] (stT S gs) := by
    rw [forS_lst (xs := (sortT (gs.map (·.1))).map tupI) (by rw [ap_Ano, st]; rfl)]
    have := by_join S gs (some (tpD rowD rs)) (some (tpD tabD T)) ((sortT (gs.map (·.1))).map tupI) (sortT (gs.map (·.1))) [] (fun p hp => pm.mem_iff.mp hp) (by rw [List.length_nil]; omega)
    rw [List.nil_append, ew] at this
    exact this
  rw [ew] at lw
  have hp := lawheapS (stT S gs) (.lst ((byW (T.map dd) (sortT (gs.map (·.1))) rs).map rowD)) (byW (T.map dd) (sortT (gs.map (·.1))) rs) (.inr (.inl rfl)) (by omega)
  simp only [F_law_by, runD, b_law_by, go0, goS, ap_nTdc0, f1, ap_nLst, ap_Ano, anoD_lst, Res.bind_ok, f2, hp]
  exact fin_app (rpRow.tp.gnd _)
theorem nLcR1d {vs : List Nat} {tg : Tg} {f g : Ev D} {e : En} {S S1 S' : Sto} {ys : List D} {t : Ev Bool} {n : Nat} (hf : f e S = .ok (.int n) S1) (hl : n < 1048576) (q : lcD tg (.tmp (rngD 0 n)) t g (wipeE e vs) (rngD 0 n) S1 = .ok ys S') : nLc vs tg (iR1 f) t g e S = .ok (.lst ys) S' := by
  rw [ap_Lc, ap_iR1, hf, Res.bind_ok, srcR1_ap, if_pos (rg hl), Res.bind_ok]
  simp only [Src.items_tmp]
  rw [if_pos (Nat.le_of_lt (Pu.sz (by simpa using hl))), q, Res.bind_ok]
theorem tabs_dr (ns ks : List Int) (hk : ks.length ≤ 6) (a1 a3 a4 a5 : Option D) (ys : List D) : ∀ (xs : List Nat) (U : Sto), (∀ i ∈ xs, i < 900) → ∃ (Ts : List Tb) (U' : Sto), Ts.length = xs.length ∧ (∀ t ∈ Ts, ∀ k ∈ ks, k ∈ t.2.map (·.1)) ∧ lcD (.nm 6) (.tmp ys) tYesD (eFn F_law_table [(eNew (nLst [(eFn F_law_big [(eVar 0), (e2 addD (eC (.int 14)) (eVar 6))])])), (eVar 2), (eC (.bl true))]) [some (.fls (ns.map D.int)), a1, some (.lst (ks.map D.int)), a3, a4, a5, none] (xs.map fun i => D.int (i : Nat)) U = .ok (Ts.map tabD) U'
  | [], U, _ => ⟨[], U, rfl, fun t ht => absurd ht List.not_mem_nil, by rw [List.map_nil, lcD_nil, if_pos (show (Src.tmp ys).ok _ from trivial)]; rfl⟩
  | i :: xs, U, hi => by
    obtain ⟨N, _, qb⟩ := big ns (14 + i) (by have := hi i List.mem_cons_self; omega) U
    have qb' : F_law_big [.fls (ns.map D.int), .int (14 + (i : Nat))] U = .ok (.int N) U := by
      have e : ((14 + i : Nat) : Int) = 14 + (i : Nat) := by push_cast; rfl
      rw [← e]
      exact qb
    obtain ⟨many, t, z, _, b2, _, _, qt⟩ := table (S := U ++ [DO.lst [.int N]]) (k := U.length) (x := N) (by simp) ks hk true
    have eT : Dg (U ++ [DO.lst [.int N]]) U.length N = U ++ [DO.lst [.int N]] := Dg_of (by simp)
    rw [eT] at qt
    obtain ⟨Ts, U', h1, h2, h3⟩ := tabs_dr ns ks hk a1 a3 a4 a5 ys xs (Dg (U ++ [DO.lst [.int N]]) U.length z) fun j hj => hi j (List.mem_cons_of_mem _ hj)
    refine ⟨(many, t) :: Ts, U', by simp [h1], fun u hu => ?_, ?_⟩
    · rcases List.mem_cons.mp hu with rfl | hu
      · exact b2
      · exact h2 u hu
    · have bt : bindT (.nm 6) (.int (i : Nat)) [some (.fls (ns.map D.int)), a1, some (.lst (ks.map D.int)), a3, a4, a5, none] = some [some (.fls (ns.map D.int)), a1, some (.lst (ks.map D.int)), a3, a4, a5, some (.int (i : Nat))] := rfl
      have ev : eFn F_law_table [(eNew (nLst [(eFn F_law_big [(eVar 0), (e2 addD (eC (.int 14)) (eVar 6))])])), (eVar 2), (eC (.bl true))] [some (.fls (ns.map D.int)), a1, some (.lst (ks.map D.int)), a3, a4, a5, some (.int (i : Nat))] U = .ok (tabD (many, t)) (Dg (U ++ [DO.lst [.int N]]) U.length z) := by
        simp only [goS, ap_nLst, addD_int, qb', qt]
      rw [List.map_cons, lcD_cons, if_pos (show (Src.tmp ys).ok _ from trivial), bt]
      simp only [ap_yes, nox_ok, Res.bind_ok, if_true, ev, h3]
      rfl
theorem tab_rev (T : List Tb) (S : Sto) : bkD (tpD tabD T) S = .ok (tpD tabD T.reverse) S := by
  show bkD (.tup (T.map tabD)) S = _
  rw [bkD_tup]
  show _ = Res.ok (D.tup (T.reverse.map tabD)) S
  rw [List.map_reverse]
theorem math : ∀ ns : List Int, ns.length ≤ 63 → ∃ S, Flaw [.fls (ns.map D.int)] [] = .ok (.bl true) S := by
  intro ns hl
  obtain ⟨N, hN, q1⟩ := big ns 0 (by decide) []
  have q1' : F_law_big [.fls (ns.map D.int), .int 0] [] = .ok (.int N) [] := q1
  have h1 : (0 : Nat) < ([DO.lst [.int N]] : Sto).length := by simp
  have d6 := dig (x := N) (m := 6) h1 (by decide) (by decide)
  have d6' : F_law_digit [.ref 0, .int 6] [DO.lst [.int N]] = .ok (.int (N % 6)) (Dg [DO.lst [.int N]] 0 (N / 6)) := d6
  obtain ⟨m, hm⟩ := Int.eq_ofNat_of_zero_le (show 0 ≤ 1 + N % 6 by omega)
  obtain ⟨ks, y, q2, hk⟩ := keys (m := m) (x := N / 6) h1 (by omega)
  rw [← hm] at q2
  have c0 : (Dg [DO.lst [.int N]] 0 y)[0]? = some (.lst [.int y]) := Dg_at h1
  generalize hT0 : Dg [DO.lst [.int N]] 0 y = T0 at q2 c0
  have l0 : T0.length = 1 := by rw [← hT0, Dg_len]; rfl
  -- the heap
  obtain ⟨N', hN', q3⟩ := big ns 7 (by decide) T0
  have q3' : F_law_big [.fls (ns.map D.int), .int 7] T0 = .ok (.int N') T0 := q3
  have h2 : (1 : Nat) < (T0 ++ [DO.lst [.int N']]).length := by simp; omega
  obtain ⟨rs0, z1, q4, hr0, far, hR⟩ := drawn_heap (x := N') h2 ks (by omega) (by omega)
  have eT : Dg (T0 ++ [DO.lst [.int N']]) 1 N' = T0 ++ [DO.lst [.int N']] := by
    have := Dg_of (S := T0 ++ [DO.lst [.int N']]) (k := T0.length) (x := N') last_at
    rw [l0] at this
    exact this
  rw [eT] at q4
  have c1 : (Dg (T0 ++ [DO.lst [.int N']]) 1 z1)[0]? = some (.lst [.int y]) := by
    rw [Dg_ne (by decide), List.getElem?_append_left (by omega)]
    exact c0
  generalize hT1 : Dg (T0 ++ [DO.lst [.int N']]) 1 z1 = T1 at q4 c1
  have l1 : T1.length = 2 := by rw [← hT1, Dg_len, List.length_append, l0]; rfl
  have q5 := lawheap T1 rs0 (by omega)
  obtain ⟨hf, hlt⟩ := hp_facts rs0
  have hpk : ∀ r ∈ hp rs0, r.1 ∈ ks := fun r hr => by
    have := lts_mem hf.pos hr
    rw [hlt] at this
    obtain ⟨q, hq, e⟩ := List.mem_map.mp (mem_lts this)
    rw [← e]
    exact (hR q hq).1
  have hlen := hp_len rs0
  generalize hp rs0 = rs at q5 hf hlt hpk hlen
  have hl64 : rs.length < 64 := by omega
  -- the tables
  have d5 := dig (S := T1) (k := 0) (x := y) (m := 5) (by omega) (by decide) (by decide)
  rw [Dg_of c1] at d5
  obtain ⟨n, hn⟩ := Int.eq_ofNat_of_zero_le (show 0 ≤ y % 5 by omega)
  rw [hn] at d5
  obtain ⟨T, U, lT, hT, q6⟩ := tabs_dr ns ks (by omega) (some (.ref 0)) (some (tpD rowD rs)) none none (rngD 0 n) (List.range n) (Dg T1 0 (y / 5)) fun i hi => by have := List.mem_range.mp hi; omega
  rw [List.length_range] at lT
  rw [← rng_map] at q6
  have q7 := nLcR1d (vs := [6]) (f := eFn F_law_digit [(eVar 1), (eC (.int 5))]) (e := [some (.fls (ns.map D.int)), some (.ref 0), some (.lst (ks.map D.int)), some (tpD rowD rs), none, none, none]) (S := T1) (n := n) (by simp only [goS, d5]) (by omega) q6
  have gd : Gd T rs := fun t ht r hr => hT t ht _ (hpk r hr)
  have gd' : Gd T.reverse rs := fun t ht => gd t (List.mem_reverse.mp ht)
  have l5 : T.length < 6 := by omega
  have l5' : T.reverse.length < 6 := by rw [List.length_reverse]; exact l5
  -- what is asked
  have p1 := pall U T rs hf hl64 gd
  obtain ⟨ps1, a1, a2, a3, b1⟩ := by_is U T.reverse (by omega) rs hl64 gd'
  obtain ⟨ps2, a4, a5, a6, b2⟩ := by_is U T (by omega) rs hl64 gd
  have k1 : Fcascaded [tpD rowD rs, tpD tabD T] U = .ok (tpD rowD (csH T rs)) U := cascH U 6 T rs l5 hl64 hf gd
  have k2 : Fcascaded [tpD rowD rs, tpD tabD T.reverse] U = .ok (tpD rowD (csH T.reverse rs)) U := cascH U 6 T.reverse rs l5' hl64 hf gd'
  have k3 : Fcascaded [tpD rowD rs, .tup []] U = .ok (tpD rowD rs) U := cascH U 6 [] rs (by decide) hl64 hf fun t ht => absurd ht List.not_mem_nil
  have p3 : Fpassed_all [tpD rowD rs, .tup []] U = .ok (tpD rowD rs) U := pall U [] rs hf hl64 fun t ht => absurd ht List.not_mem_nil
  have sp := psH_SB T rs [] (lts rs) hf (SB.nil _)
  have er : (T.map dd).reverse ++ [] = T.reverse.map dd := by rw [List.append_nil, List.map_reverse]
  rw [er] at sp
  have e1 : psH T rs = Lw.hp (byW (T.reverse.map dd) ps1 rs) := same_heap sp (byH_SB a1 a2 a3)
  have e2 : csH T rs = Lw.hp (byW (T.map dd) ps2 rs) := same_heap (csH_SB T rs hf) (byH_SB a4 a5 a6)
  have e3 : csH T.reverse rs = psH T rs := same_heap (csH_SB T.reverse rs hf) sp
  rw [← e1] at b1
  rw [← e2] at b2
  rw [e3] at k2
  have ne : ∀ x : List (Int × Int), eqD true (tpD rowD x) (tpD rowD x) U = .ok (.bl false) U := fun x => by
    rw [rpRow.tp.ne (by decide)]
    simp
  have eq : ∀ x : List (Int × Int), eqD false (tpD rowD x) (tpD rowD x) U = .ok (.bl true) U := fun x => by
    rw [rpRow.tp.eq (by decide)]
    simp
  have rv := tab_rev T U
  have tu : tupD [.lst (T.map tabD)] U = .ok (tpD tabD T) U := tupD_lst
  refine ⟨U.take 0, ?_⟩
  simp only [Flaw, runD, blaw, go0, goS, q1', List.nil_append, List.length_nil, d6', addD_int, q2, q3', l0, q4, q5, ap_Ano, q7, anoD_lst, Res.bind_ok, tu, p1, rv, b1, ne, k1, b2, Bool.false_eq_true, if_false, k2, eq, p3, k3]
  exact fin_frz ⟨Nat.zero_le _, fun k o hk => absurd hk (by simp)⟩ rfl
end Lw
open PySem PySem.W PyProof.Rows
set_option maxRecDepth 100000 in
set_option maxHeartbeats 0 in
theorem PySem.Challenge.cw_walkframe_k30_passes_and_cascades_holds : PySem.Challenge.rw_walkframe_k30_passes_and_cascades.Holds := by
  w_on; o_law; k_head; (case hw => w_witness2)
  k_fill
  refine L2.walk_of (l := PySem.Challenge.rw_walkframe_k30_passes_and_cascades) (n := 63) (k := 11) (x := "_law_script") (CX := fun w => L2N.CX PySem.Challenge.pw_walkframe_k30_passes_and_cascades w) (sp := fun w => Pu.SpD _ (fun _ => 0) 1 Lw.Flaw) rfl (by decide) rfl ⟨rfl, by decide, by decide⟩ (fun w h Y => PySem.W.kIn_of Y) ?F (fun w H a ns hl _ hs => Pu.law_sp Lw.math H a ns hl hs) (fun w H s e s' h => Pu.cx_no h)
  case F =>
    intro w mg fa h KX G hmg
    refine' Lw.all_ok KX G hmg ?a0 ?l0 ?c0 ?k0 ?a1 ?l1 ?c1 ?k1 ?a2 ?l2 ?c2 ?k2 ?a3 ?l3 ?c3 ?k3 ?a4 ?l4 ?c4 ?k4 ?a5 ?l5 ?c5 ?k5 ?a6 ?l6 ?c6 ?k6 ?a7 ?l7 ?c7 ?k7 ?a8 ?l8 ?c8 ?k8 ?a9 ?l9 ?c9 ?k9 ?a10 ?l10 ?c10 ?k10 ?a11 ?l11 ?c11 ?k11 ?a12 ?l12 ?c12 ?k12 ?a13 ?l13 ?c13 ?k13 ?a14 ?l14 ?c14 ?k14 ?a15 ?l15 ?c15 ?k15 ?a16 ?l16 ?c16 ?k16 ?a17 ?l17 ?c17 ?k17 ?z_dict ?z_int ?z_len ?z_range ?z_sorted ?z_tuple
    (case a0 => k_is)
    (case l0 => k_is)
    (case c0 => k_is)
    (case k0 => k_is)
    (case a1 => k_is)
    (case l1 => k_is)
    (case c1 => k_is)
    (case k1 => k_is)
    (case a2 => k_is)
    (case l2 => k_is)
    (case c2 => k_is)
    (case k2 => k_is)
    (case a3 => k_is)
    (case l3 => k_is)
    (case c3 => k_is)
    (case k3 => k_is)
    (case a4 => k_is)
    (case l4 => k_is)
    (case c4 => k_is)
    (case k4 => k_is)
    (case a5 => k_is)
    (case l5 => k_is)
    (case c5 => k_is)
    (case k5 => k_is)
    (case a6 => k_is)
    (case l6 => k_is)
    (case c6 => k_is)
    (case k6 => k_is)
    (case a7 => k_is)
    (case l7 => k_is)
    (case c7 => k_is)
    (case k7 => k_is)
    (case a8 => k_is)
    (case l8 => k_is)
    (case c8 => k_is)
    (case k8 => k_is)
    (case a9 => k_is)
    (case l9 => k_is)
    (case c9 => k_is)
    (case k9 => k_is)
    (case a10 => k_is)
    (case l10 => k_is)
    (case c10 => k_is)
    (case k10 => k_is)
    (case a11 => k_is)
    (case l11 => k_is)
    (case c11 => k_is)
    (case k11 => k_is)
    (case a12 => k_is)
    (case l12 => k_is)
    (case c12 => k_is)
    (case k12 => k_is)
    (case a13 => k_is)
    (case l13 => k_is)
    (case c13 => k_is)
    (case k13 => k_is)
    (case a14 => k_is)
    (case l14 => k_is)
    (case c14 => k_is)
    (case k14 => k_is)
    (case a15 => k_is)
    (case l15 => k_is)
    (case c15 => k_is)
    (case k15 => k_is)
    (case a16 => k_is)
    (case l16 => k_is)
    (case c16 => k_is)
    (case k16 => k_is)
    (case a17 => k_is)
    (case l17 => k_is)
    (case c17 => k_is)
    (case k17 => k_is)
    (case z_dict => k_is)
    (case z_int => k_is)
    (case z_len => k_is)
    (case z_range => k_is)
    (case z_sorted => k_is)
    (case z_tuple => k_is)
