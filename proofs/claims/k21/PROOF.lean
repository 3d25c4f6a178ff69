import PyProof.Rows.All
import Wide.All
import OpenK.AllK
import Wide.FinOn
import HandS.ForMost
import HandS.ForExc
import HandS.Wide
import HandS.IsInst
import HandS.TupAny
import HandS.TupMul
import HandS.Deep
import HandS.WideBits
import HandS.Flow
import HandS.ExcCtx
import HandS.HotCalls
import HandS.ExcIs
import HandS.SortInts
import HandS.SortRule
import HandS.SetFor
import HandS.Strs
import HandS.More
import HandS.ExcValue
import HandS.TupLe
import HandS.Style
import HandS.Iter
import HandS.Zip
import HandS.Conv
import KE.GoesEnum
import PyProof.WalksMore
import PyProof.MinMaxWalk
import PyProof.SumWalkG
import PyProof.StrOps2
import KE.DataMinMax
import KE.KDictPairs
import HandS.SetKeys
import HandS.Text
import HandS.Flt
import KE.KDictList
import KE.DataFind
import KE.DatumOrd
import HandS.SortKw
import KE.GoesRaise
import HandS.TryOnly
import PySem.Challenge.RW_walkframe_k21_any_bars_read
set_option Elab.async false
set_option linter.all false
set_option bootstrap.genMatcherCode false
set_option genSizeOf false
set_option maxRecDepth 100000
set_option maxHeartbeats 4000000
namespace Pu
open PySem PySem.Spec PyProof.Rows L2
/-- a new tuple is laid, and stays as it is -/
noncomputable def NT (vs : List V) (H : Hp) (Q : VK) : Prop := ∀ (p : Addr) (ob : Obj), H p = none → ob.dict = none → Q (.ref p) (upd H p (.frz ob (.tup vs)))
section
variable {X : Cx}
theorem NT.lay {pins : List (Addr × Obj)} {σ : L2.St} {H : Hp} {s : Shared} {vs : List V} {us : List Value} {Q : VK} {tk : Tok} (J : Inv X pins σ H s) (r : Vals vs us) (z : vs.length ≤ sizeLine) (q : NT vs H Q) :
    EP X pins σ Q (.ref s.heap.objs.size) { s with heap := s.heap.push { cls := .type "tuple", data := .seq us.toArray }, toks := tk } :=
  ⟨.ref s.heap.objs.size, _, J.laid (t' := tk) (o := .frz { cls := .type "tuple", data := .seq us.toArray } (.tup vs)) (fun _ _ e => Heap.get?_push_of_some _ e) (Nat.le_refl _) ⟨Heap.get?_push_size _ rfl, z, us, r, IsTup.new _ _⟩, rfl, q _ _ (J.hok.fresh (Nat.le_refl _)) rfl⟩
noncomputable def tTupF (t : TA) : TE := fun σ H Q => t σ H fun vs H1 => vs.length ≤ sizeLine ∧ NT vs H1 Q
theorem pe_tupF {es : List Expr} {t : TA} {k : Nat} {pos : Pos} (h : PA X es t) : PE X (.Tuple es k pos) (tTupF t) := ⟨fun pins s σ H Q J h0 =>
  wpAny_Tuple_spliced (thn (h.run pos pins s σ H _ J h0) fun us s1 ⟨vs, H1, J1, r, z, q⟩ => ⟨by rw [← r.length]; exact z, NT.lay (tk := s1.toks) J1 r z q⟩)⟩
/-- t + u -/
noncomputable def rCatF (K : PySem.W.Frag) : R2 := fun x y H Q => ∃ a b xs ys, x = .ref a ∧ y = .ref b ∧ SqT K H a xs ∧ SqT K H b ys ∧ xs.length + ys.length ≤ sizeLine ∧ (xs = [] → Q (.ref b) H) ∧ (xs ≠ [] → ys = [] → Q (.ref a) H) ∧ (xs ≠ [] → ys ≠ [] → NT (xs ++ ys) H Q)
theorem op_catF : OpR X (binaryOp .Add) (rCatF X.K) := by
  intro pins s σ H x y v u Q J rx ry h
  obtain ⟨a, b, xs, ys, rfl, rfl, ha, hb, z, q0, q1, q2⟩ := h
  cases rx
  cases ry
  obtain ⟨its, ri, pa', _⟩ := J.tuple ha
  obtain ⟨jts, rj, pb', _⟩ := J.tuple hb
  have nx := ri.nil_iff
  have ny := rj.nil_iff
  by_cases hx : xs = []
  · subst hx
    have e := nx.mpr rfl
    subst e
    exact cat_tup0 pa' pb' ⟨.ref b, H, J, rfl, q0 rfl⟩
  · refine HT.cat_tup pa' pb' (fun e => hx (nx.mp e)) (fun e => ⟨.ref a, H, J, rfl, q1 hx (ny.mp e)⟩) (fun e => ?_) (by rw [← ri.length, ← rj.length]; exact z)
    exact NT.lay (tk := s.toks) J (ri.append rj) (by rw [List.length_append]; exact z) (q2 hx fun w => e (ny.mpr w))
/-- t[lo:hi] -/
noncomputable def rSlF (K : PySem.W.Frag) : V → Option Int → Option Int → Hp → VK → Prop := fun x lo hi H Q => ∃ a xs, x = .ref a ∧ SqT K H a xs ∧
  (HT.sIx xs.length 0 lo = 0 ∧ HT.sIx xs.length xs.length hi = xs.length → Q (.ref a) H) ∧ (¬ (HT.sIx xs.length 0 lo = 0 ∧ HT.sIx xs.length xs.length hi = xs.length) → NT (cutV xs lo hi) H Q)
theorem sl_tupF : SlR X (rSlF X.K) := by
  intro pins s σ H x v vl vu lo hi sl Q J rx hs pl pu h
  obtain ⟨a, xs, rfl, hx, q1, q2⟩ := h
  cases rx
  obtain ⟨its, ri, ht, z⟩ := J.tuple hx
  have hn : its.toArray.size = xs.length := by rw [List.size_toArray, ri.length]
  refine ⟨"tuple", _, PyProof.Rows.slot_tuple_getitem.lookup, ht.typeIs, ?_⟩
  by_cases hw : HT.sIx xs.length 0 lo = 0 ∧ HT.sIx xs.length xs.length hi = xs.length
  · exact getItem_tuple_whole ht hs pl pu (by rw [hn]; exact hw) ⟨.ref a, H, J, rfl, q1 hw⟩
  · refine HT.getItem_tuple_cut ht hs pl pu (by rw [hn]; exact hw) ?_ (by rw [hn]; exact z)
    rw [hn]
    exact NT.lay (tk := s.toks) J ((ri.drop (HT.sIx xs.length 0 lo)).take (HT.sIx xs.length xs.length hi - HT.sIx xs.length 0 lo)) (Nat.le_trans (cutV_length xs lo hi) z) (q2 hw)
end
end Pu
set_option Elab.async false
set_option linter.all false
set_option maxRecDepth 100000
namespace Pu
open PySem PySem.Spec PyProof.Rows L2
/-- a value: data by value; what is changed in place by its number in the store -/
inductive D where
  | non | bl (b : Bool) | int (i : Int) | str (x : Str) | tup (xs : List D) | tpi (xs : List D) | lst (xs : List D) | fls (xs : List D) | dct (kvs : List (Key × D)) | ref (n : Nat)
/-- an object of the store -/
inductive DO where
  | lst (xs : List D) | dct (kvs : List (Key × D)) | ins (c : Str) (fs : List (Str × D))
noncomputable abbrev En := List (Option D)
noncomputable abbrev Sto := List DO
inductive Res (α : Type) where
  | ok (a : α) (S : Sto) | exc (c : Str) (S : Sto) | bad
inductive SRes where
  | next (e : En) (S : Sto) | ret (d : D) (S : Sto) | brk (e : En) (S : Sto) | cnt (e : En) (S : Sto) | exc (c : Str) (e : En) (S : Sto) | bad
noncomputable abbrev Ev (α : Type) := En → Sto → Res α
noncomputable abbrev Stm := En → Sto → SRes
noncomputable def Res.bind {α β : Type} (r : Res α) (k : α → Sto → Res β) : Res β := match r with
  | .ok a S => k a S
  | .exc c S => .exc c S
  | .bad => .bad
@[simp] theorem Res.bind_ok {α β : Type} {a : α} {S : Sto} {k : α → Sto → Res β} : (Res.ok a S).bind k = k a S := id rfl
@[simp] theorem Res.bind_exc {α β : Type} {c : Str} {S : Sto} {k : α → Sto → Res β} : (Res.exc c S).bind k = .exc c S := id rfl
@[simp] theorem Res.bind_bad {α β : Type} {k : α → Sto → Res β} : (Res.bad).bind k = .bad := id rfl
/-- a value, or nothing is promised -/
noncomputable def opt {α : Type} (o : Option α) (S : Sto) : Res α := match o with
  | some a => .ok a S
  | none => .bad
@[simp] theorem opt_some {α : Type} {a : α} {S : Sto} : opt (some a) S = .ok a S := id rfl
@[simp] theorem opt_none {α : Type} {S : Sto} : opt (none : Option α) S = .bad := id rfl
/-- the addresses of the store's objects, by number; all addresses that no value may have by its data (those and the reserved ones) -/
structure AM where
  ad : List Addr
  no : List Addr
  sub : ∀ a, a ∈ ad → a ∈ no
noncomputable def TupAt (K : PySem.W.Frag) (am : AM) (H : Hp) (a : Addr) (vs : List V) : Prop :=
  (∃ o : Obj, H a = some (.frz o (.tup vs)) ∧ o.dict = none ∧ a ∉ am.no) ∨ ∃ (o : Obj) (its : Array Value) (n : Nat), K.lookup a = some o ∧ o.cls = .type "tuple" ∧ o.dict = none ∧ o.data = .seq its n ∧ its.size ≤ sizeLine ∧ Vals vs its.toList
theorem TupAt.seq {K : PySem.W.Frag} {am : AM} {H : Hp} {a : Addr} {vs : List V} (h : TupAt K am H a vs) : SqT K H a vs := by
  rcases h with ⟨o, h, _⟩ | ⟨o, its, n, h1, h2, _, h3⟩
  · exact .inl (.inr ⟨o, h⟩)
  · exact .inr ⟨o, its, n, h1, h2, h3⟩
/-- the item of an iterator: read at once -/
noncomputable def TpiAt (am : AM) (H : Hp) (a : Addr) (vs : List V) : Prop := Rd H a (.tup vs) ∧ a ∉ am.no
noncomputable def LstAt (K : PySem.W.Frag) (am : AM) (H : Hp) (a : Addr) (vs : List V) : Prop :=
  (Rd H a (.lst vs) ∧ a ∉ am.no) ∨ ∃ (o : Obj) (its : Array Value) (n : Nat), K.lookup a = some o ∧ o.cls = .type "list" ∧ o.dict = none ∧ o.data = .seq its n ∧ its.size ≤ sizeLine ∧ Vals vs its.toList
theorem LstAt.seq {K : PySem.W.Frag} {am : AM} {H : Hp} {a : Addr} {vs : List V} (h : LstAt K am H a vs) : SqL K H a vs := by
  rcases h with ⟨h, _⟩ | h
  · exact .inl h
  · exact .inr h
mutual
inductive VR (K : PySem.W.Frag) (am : AM) (H : Hp) : D → V → Prop
  | non : VR K am H .non .non
  | bl (b : Bool) : VR K am H (.bl b) (.bl b)
  | int (i : Int) : VR K am H (.int i) (.int i)
  | str (x : Str) : VR K am H (.str x) (.str x)
  | tup {a : Addr} {vs : List V} {ds : List D} : TupAt K am H a vs → VRs K am H ds vs → VR K am H (.tup ds) (.ref a)
  | tpi {a : Addr} {vs : List V} {ds : List D} : TpiAt am H a vs → VRs K am H ds vs → VR K am H (.tpi ds) (.ref a)
  | lst {a : Addr} {vs : List V} {ds : List D} : H a = some (.lst vs) → a ∉ am.no → VRs K am H ds vs → VR K am H (.lst ds) (.ref a)
  | fls {a : Addr} {vs : List V} {ds : List D} : LstAt K am H a vs → VRs K am H ds vs → VR K am H (.fls ds) (.ref a)
  | dct {a : Addr} {vs : List (Key × V)} {ds : List (Key × D)} : H a = some (.dK vs) → a ∉ am.no → VRk K am H ds vs → VR K am H (.dct ds) (.ref a)
  | ref {n : Nat} {a : Addr} : am.ad[n]? = some a → VR K am H (.ref n) (.ref a)
inductive VRs (K : PySem.W.Frag) (am : AM) (H : Hp) : List D → List V → Prop
  | nil : VRs K am H [] []
  | cons {d : D} {v : V} {ds : List D} {vs : List V} : VR K am H d v → VRs K am H ds vs → VRs K am H (d :: ds) (v :: vs)
inductive VRk (K : PySem.W.Frag) (am : AM) (H : Hp) : List (Key × D) → List (Key × V) → Prop
  | nil : VRk K am H [] []
  | cons {k : Key} {d : D} {v : V} {ds : List (Key × D)} {vs : List (Key × V)} : VR K am H d v → VRk K am H ds vs → VRk K am H ((k, d) :: ds) ((k, v) :: vs)
end
/-- what keeps values as they are -/
structure Ext (am am' : AM) (H H' : Hp) : Prop where
  ad : ∀ (n : Nat) (a : Addr), am.ad[n]? = some a → am'.ad[n]? = some a
  keep : ∀ (b : Addr) (o : HO), H b = some o → b ∉ am.no → H' b = some o ∧ b ∉ am'.no
/-- what a step does to the heap: nothing to what is not in the store; new ones of the store are new -/
structure Grow (am am' : AM) (H H' : Hp) : Prop where
  pre : ∃ r, am'.ad = am.ad ++ r
  fresh : ∀ b, b ∈ am'.ad → b ∉ am.ad → H b = none
  freshNo : ∀ b, b ∈ am'.no → b ∉ am.no → H b = none
  noK : ∀ b, b ∈ am.no → b ∈ am'.no
  keep : ∀ b o, H b = some o → b ∉ am.ad → H' b = some o
theorem Grow.get {am am' : AM} {H H' : Hp} (g : Grow am am' H H') {n : Nat} {a : Addr} (h : am.ad[n]? = some a) : am'.ad[n]? = some a := by
  obtain ⟨r, e⟩ := g.pre
  rw [e]
  have hl := (List.getElem?_eq_some_iff.mp h).1
  rw [List.getElem?_append_left hl]
  exact h
theorem Grow.ext {am am' : AM} {H H' : Hp} (g : Grow am am' H H') : Ext am am' H H' := ⟨fun n a h => g.get h, fun b o h n => ⟨g.keep b o h fun z => n (am.sub b z), fun z => by
  have q := g.freshNo b z n
  rw [h] at q; cases q⟩⟩
theorem Grow.refl {am : AM} {H : Hp} : Grow am am H H := ⟨⟨[], by simp⟩, fun _ h h' => absurd h h', fun _ h h' => absurd h h', fun _ h => h, fun _ _ h _ => h⟩
theorem Grow.trans {a b c : AM} {H H1 H2 : Hp} (g : Grow a b H H1) (g' : Grow b c H1 H2) : Grow a c H H2 := by
  obtain ⟨r, e⟩ := g.pre
  obtain ⟨r', e'⟩ := g'.pre
  have ina : ∀ x o, H x = some o → x ∉ a.ad → x ∉ b.ad := fun x o h n hb => by
    have z := g.fresh x hb n
    rw [h] at z; cases z
  refine ⟨⟨r ++ r', by rw [e', e, List.append_assoc]⟩, fun x hx n => ?_, fun x hx n => ?_, fun x hx => g'.noK x (g.noK x hx), fun x o h n => g'.keep x o (g.keep x o h n) (ina x o h n)⟩
  · cases q : H x with
    | none => rfl
    | some o =>
      have h1 := g.keep x o q n
      have h2 := g'.fresh x hx (ina x o q n)
      rw [h1] at h2; cases h2
  · cases q : H x with
    | none => rfl
    | some o =>
      have n1 : x ∉ a.ad := fun z => n (a.sub x z)
      have h1 := g.keep x o q n1
      have nb : x ∉ b.no := fun z => by
        have q2 := g.freshNo x z n
        rw [q] at q2; cases q2
      have h2 := g'.freshNo x hx nb
      rw [h1] at h2; cases h2
theorem Ext.rd {am am' : AM} {H H' : Hp} (g : Ext am am' H H') {b : Addr} {u : HO} (h : Rd H b u) (n : b ∉ am.no) : Rd H' b u ∧ b ∉ am'.no := by
  rcases h with h | ⟨o, h⟩
  · exact ⟨.inl (g.keep _ _ h n).1, (g.keep _ _ h n).2⟩
  · exact ⟨.inr ⟨o, (g.keep _ _ h n).1⟩, (g.keep _ _ h n).2⟩
theorem TupAt.ext {K : PySem.W.Frag} {am am' : AM} {H H' : Hp} (g : Ext am am' H H') {a : Addr} {vs : List V} (h : TupAt K am H a vs) : TupAt K am' H' a vs := by
  rcases h with ⟨o, h, d, n⟩ | h
  · exact .inl ⟨o, (g.keep _ _ h n).1, d, (g.keep _ _ h n).2⟩
  · exact .inr h
theorem TpiAt.ext {am am' : AM} {H H' : Hp} (g : Ext am am' H H') {a : Addr} {vs : List V} (h : TpiAt am H a vs) : TpiAt am' H' a vs := g.rd h.1 h.2
theorem LstAt.ext {K : PySem.W.Frag} {am am' : AM} {H H' : Hp} (g : Ext am am' H H') {a : Addr} {vs : List V} (h : LstAt K am H a vs) : LstAt K am' H' a vs := by
  rcases h with ⟨h, n⟩ | h
  · exact .inl (g.rd h n)
  · exact .inr h
section
variable {K : PySem.W.Frag} {am am' : AM} {H H' : Hp}
mutual
theorem VR.ext (g : Ext am am' H H') : ∀ {d : D} {v : V}, VR K am H d v → VR K am' H' d v
  | _, _, .non => .non
  | _, _, .bl b => .bl b
  | _, _, .int i => .int i
  | _, _, .str x => .str x
  | _, _, .tup h hs => .tup (h.ext g) (VRs.ext g hs)
  | _, _, .tpi h hs => .tpi (h.ext g) (VRs.ext g hs)
  | _, _, .lst h n hs => .lst (g.keep _ _ h n).1 (g.keep _ _ h n).2 (VRs.ext g hs)
  | _, _, .fls h hs => .fls (h.ext g) (VRs.ext g hs)
  | _, _, .dct h n hs => .dct (g.keep _ _ h n).1 (g.keep _ _ h n).2 (VRk.ext g hs)
  | _, _, .ref h => .ref (g.ad _ _ h)
theorem VRs.ext (g : Ext am am' H H') : ∀ {ds : List D} {vs : List V}, VRs K am H ds vs → VRs K am' H' ds vs
  | _, _, .nil => .nil
  | _, _, .cons h t => .cons (VR.ext g h) (VRs.ext g t)
theorem VRk.ext (g : Ext am am' H H') : ∀ {ds : List (Key × D)} {vs : List (Key × V)}, VRk K am H ds vs → VRk K am' H' ds vs
  | _, _, .nil => .nil
  | _, _, .cons h t => .cons (VR.ext g h) (VRk.ext g t)
end
theorem VR.mono (g : Grow am am' H H') {d : D} {v : V} (h : VR K am H d v) : VR K am' H' d v := h.ext g.ext
theorem VRs.mono (g : Grow am am' H H') {ds : List D} {vs : List V} (h : VRs K am H ds vs) : VRs K am' H' ds vs := h.ext g.ext
theorem VRk.mono (g : Grow am am' H H') {ds : List (Key × D)} {vs : List (Key × V)} (h : VRk K am H ds vs) : VRk K am' H' ds vs := h.ext g.ext
end
noncomputable abbrev VRf (K : PySem.W.Frag) (am : AM) (H : Hp) : List (Str × D) → List (Str × V) → Prop := Paired fun p q => p.1 = q.1 ∧ VR K am H p.2 q.2
noncomputable def OR (K : PySem.W.Frag) (cl : Str → Addr) (am : AM) (H : Hp) (a : Addr) : DO → Prop
  | .lst ds => ∃ vs, H a = some (.lst vs) ∧ VRs K am H ds vs
  | .dct ds => ∃ vs, H a = some (.dK vs) ∧ VRk K am H ds vs
  | .ins c fs => ∃ dx vs, H a = some (.ins (cl c) dx vs) ∧ VRf K am H fs vs
structure RelS (K : PySem.W.Frag) (cl : Str → Addr) (am : AM) (S : Sto) (H : Hp) : Prop where
  len : am.ad.length = S.length
  nd : am.ad.Nodup
  ob : ∀ (k : Nat) (o : DO) (a : Addr), S[k]? = some o → am.ad[k]? = some a → OR K cl am H a o
  there : ∀ a, a ∈ am.no → ∃ o, H a = some o
/-- slots -/
structure RelE (K : PySem.W.Frag) (am : AM) (H : Hp) (e : En) (σ : L2.St) : Prop where
  len : e.length = σ.length
  get : ∀ (i : Nat) (d : D), e[i]? = some (some d) → ∃ v, σ[i]? = some (some v) ∧ VR K am H d v
/-- slots forgotten -/
noncomputable def wipeE (e : En) : List Nat → En
  | [] => e
  | v :: vs => (wipeE e vs).set v none
section
variable {K : PySem.W.Frag} {cl : Str → Addr} {am am' : AM} {H H' : Hp} {S S' : Sto}
theorem RelE.ext (g : Ext am am' H H') {e : En} {σ : L2.St} (r : RelE K am H e σ) : RelE K am' H' e σ := ⟨r.len, fun i d h => by
  obtain ⟨v, h1, h2⟩ := r.get i d h
  exact ⟨v, h1, h2.ext g⟩⟩
theorem RelE.mono (g : Grow am am' H H') {e : En} {σ : L2.St} (r : RelE K am H e σ) : RelE K am' H' e σ := r.ext g.ext
theorem RelE.set {e : En} {σ : L2.St} (r : RelE K am H e σ) (i : Nat) {d : D} {v : V} (h : VR K am H d v) : RelE K am H (e.set i (some d)) (σ.set i (some v)) := ⟨by rw [List.length_set, List.length_set]; exact r.len, fun j x hx => by
  by_cases hj : i = j
  · subst hj
    rw [List.getElem?_set_self'] at hx ⊢
    cases q : e[i]? with
    | none => rw [q] at hx; cases hx
    | some z =>
      rw [q] at hx
      have e1 : d = x := Option.some.inj (Option.some.inj hx)
      subst e1
      have hi := (List.getElem?_eq_some_iff.mp q).1
      rw [r.len] at hi
      rw [List.getElem?_eq_getElem hi]
      exact ⟨v, rfl, h⟩
  · rw [List.getElem?_set_ne hj] at hx ⊢
    exact r.get j x hx⟩
theorem RelE.wipe1 {e : En} {σ : L2.St} (r : RelE K am H e σ) (i : Nat) : RelE K am H (e.set i none) σ := ⟨by rw [List.length_set]; exact r.len, fun j x hx => by
  by_cases hj : i = j
  · subst hj
    rw [List.getElem?_set_self'] at hx
    cases q : e[i]? with
    | none => rw [q] at hx; cases hx
    | some z =>
      rw [q] at hx
      cases Option.some.inj hx
  · rw [List.getElem?_set_ne hj] at hx
    exact r.get j x hx⟩
theorem RelE.forget {e : En} {σ : L2.St} (r : RelE K am H e σ) : ∀ vs, RelE K am H (wipeE e vs) σ
  | [] => r
  | v :: vs => (RelE.forget r vs).wipe1 v
theorem RelE.wipe {e : En} {σ : L2.St} (r : RelE K am H e σ) : ∀ vs, RelE K am H (wipeE e vs) (L2.wipe σ vs)
  | [] => r
  | v :: vs => by
    have q := RelE.wipe r vs
    refine ⟨?_, fun j x hx => ?_⟩
    · show ((wipeE e vs).set v none).length = ((L2.wipe σ vs).set v none).length
      rw [List.length_set, List.length_set]
      exact q.len
    · have hx' : ((wipeE e vs).set v none)[j]? = some (some x) := hx
      show ∃ y, ((L2.wipe σ vs).set v none)[j]? = some (some y) ∧ _
      by_cases hj : v = j
      · subst hj
        rw [List.getElem?_set_self'] at hx'
        cases q : (wipeE e vs)[v]? with
        | none => rw [q] at hx'; cases hx'
        | some z =>
          rw [q] at hx'
          cases Option.some.inj hx'
      · rw [List.getElem?_set_ne hj] at hx' ⊢
        exact q.get j x hx'
theorem RelS.has {k : Nat} {o : DO} (r : RelS K cl am S H) (h : S[k]? = some o) : ∃ a, am.ad[k]? = some a ∧ OR K cl am H a o := by
  have hk := (List.getElem?_eq_some_iff.mp h).1
  have hk' : k < am.ad.length := by rw [r.len]; exact hk
  exact ⟨am.ad[k], List.getElem?_eq_getElem hk', r.ob k o _ h (List.getElem?_eq_getElem hk')⟩
theorem OR.ext (g : Ext am am' H H') {a : Addr} {o : DO} (h : OR K cl am H a o) (k : ∀ u, H a = some u → H' a = some u) : OR K cl am' H' a o := by
  cases o with
  | lst ds => obtain ⟨vs, h1, h2⟩ := h; exact ⟨vs, k _ h1, h2.ext g⟩
  | dct ds => obtain ⟨vs, h1, h2⟩ := h; exact ⟨vs, k _ h1, h2.ext g⟩
  | ins c fs => obtain ⟨dx, vs, h1, h2⟩ := h; exact ⟨dx, vs, k _ h1, Paired.mapP h2 fun p q z => ⟨z.1, z.2.ext g⟩⟩
theorem OR.mono (g : Grow am am' H H') {a : Addr} {o : DO} (h : OR K cl am H a o) (k : ∀ u, H a = some u → H' a = some u) : OR K cl am' H' a o := h.ext g.ext k
theorem RelS.new (r : RelS K cl am S H) {p : Addr} (h : H p = none) : p ∉ am.no := fun hp => by
  obtain ⟨o, e⟩ := r.there p hp
  rw [h] at e; cases e
/-- a new object that is not of the store -/
theorem Grow.upd {o : HO} {p : Addr} (h : H p = none) : Grow am am H (upd H p o) := ⟨⟨[], by simp⟩, fun _ h h' => absurd h h', fun _ h h' => absurd h h', fun _ h => h, fun b u hb _ => by
  rw [upd_ne (ne_of_none hb h)]
  exact hb⟩
theorem RelS.upd (r : RelS K cl am S H) {o : HO} {p : Addr} (h : H p = none) : RelS K cl am S (upd H p o) :=
  ⟨r.len, r.nd, fun k u a h1 h2 => (r.ob k u a h1 h2).mono (Grow.upd h) fun w hw => by rw [upd_ne (ne_of_none hw h)]; exact hw, fun a ha => by
    obtain ⟨u, e⟩ := r.there a ha
    exact ⟨u, by rw [upd_ne (ne_of_none e h)]; exact e⟩⟩
/-- an object of the store is changed -/
theorem Grow.put {a : Addr} {o : HO} (h : a ∈ am.ad) : Grow am am H (L2.upd H a o) := ⟨⟨[], by simp⟩, fun _ h h' => absurd h h', fun _ h h' => absurd h h', fun _ h => h, fun b u hb nb => by
  rw [upd_ne (show b ≠ a from fun e => nb (by rw [e]; exact h))]
  exact hb⟩
theorem RelS.put {k : Nat} {a : Addr} {o : DO} {u : HO} (r : RelS K cl am S H) (hk : am.ad[k]? = some a) (h : OR K cl am (L2.upd H a u) a o) : RelS K cl am (S.set k o) (L2.upd H a u) := by
  have hm : a ∈ am.ad := List.mem_of_getElem? hk
  refine ⟨by rw [List.length_set]; exact r.len, r.nd, fun j w b h1 h2 => ?_, fun b hb => ?_⟩
  · by_cases hj : k = j
    · subst hj
      rw [hk] at h2
      cases h2
      have hl : k < S.length := by rw [← r.len]; exact (List.getElem?_eq_some_iff.mp hk).1
      rw [List.getElem?_set_self hl] at h1
      cases h1
      exact h
    · rw [List.getElem?_set_ne hj] at h1
      refine (r.ob j w b h1 h2).mono (Grow.put hm) fun z hz => ?_
      rw [upd_ne]
      · exact hz
      · intro e
        subst e
        exact hj (nd_ix r.nd hk h2)
  · by_cases e : b = a
    · exact ⟨u, by rw [e]; exact upd_same⟩
    · obtain ⟨w, q⟩ := r.there b hb
      exact ⟨w, by rw [upd_ne e]; exact q⟩
/-- an address is kept for a new object -/
noncomputable def AM.resv (am : AM) (a : Addr) : AM := ⟨am.ad, a :: am.no, fun b hb => List.mem_cons_of_mem _ (am.sub b hb)⟩
/-- .. it comes into the store -/
noncomputable def AM.push (am : AM) (a : Addr) (h : a ∈ am.no) : AM := ⟨am.ad ++ [a], am.no, fun b hb => by
  rcases List.mem_append.mp hb with hb | hb
  · exact am.sub b hb
  · have e : b = a := by simpa using hb
    rw [e]
    exact h⟩
/-- .. it does not -/
noncomputable def AM.free (am : AM) (a : Addr) (h : a ∉ am.ad) : AM := ⟨am.ad, am.no.filter fun b => decide (b ≠ a), fun b hb => List.mem_filter.mpr ⟨am.sub b hb, decide_eq_true fun e => h (by rw [← e]; exact hb)⟩⟩
theorem AM.free_not {a : Addr} (h : a ∉ am.ad) : a ∉ (am.free a h).no := fun z => (of_decide_eq_true (List.mem_filter.mp z).2) rfl
theorem Grow.resv {a : Addr} {o : HO} (h : H a = none) : Grow am (am.resv a) H (L2.upd H a o) := ⟨⟨[], by simp [AM.resv]⟩, fun _ h h' => absurd h h', fun b hb nb => by
  rcases List.mem_cons.mp hb with e | hb
  · rw [e]; exact h
  · exact absurd hb nb, fun b hb => List.mem_cons_of_mem _ hb, fun b u hb _ => by rw [upd_ne (ne_of_none hb h)]; exact hb⟩
theorem RelS.resv (r : RelS K cl am S H) {a : Addr} {o : HO} (h : H a = none) : RelS K cl (am.resv a) S (L2.upd H a o) :=
  ⟨r.len, r.nd, fun k u b h1 h2 => (r.ob k u b h1 h2).mono (Grow.resv h) fun w hw => by rw [upd_ne (ne_of_none hw h)]; exact hw, fun b hb => by
    rcases List.mem_cons.mp hb with e | hb
    · exact ⟨o, by rw [e]; exact upd_same⟩
    · obtain ⟨u, e⟩ := r.there b hb
      exact ⟨u, by rw [upd_ne (ne_of_none e h)]; exact e⟩⟩
theorem Ext.push {a : Addr} (h : a ∈ am.no) : Ext am (am.push a h) H H := ⟨fun n b hb => by
  show (am.ad ++ [a])[n]? = some b
  rw [List.getElem?_append_left (List.getElem?_eq_some_iff.mp hb).1]
  exact hb, fun b o hb nb => ⟨hb, nb⟩⟩
theorem Ext.free {a : Addr} (h : a ∉ am.ad) : Ext am (am.free a h) H H := ⟨fun n b hb => hb, fun b o hb nb => ⟨hb, fun z => nb (List.mem_filter.mp z).1⟩⟩
theorem Grow.push {a : Addr} (g : Grow am am' H H') (h : a ∈ am'.no) (n : H a = none) : Grow am (am'.push a h) H H' := by
  obtain ⟨r, e⟩ := g.pre
  refine ⟨⟨r ++ [a], by show am'.ad ++ [a] = _; rw [e, List.append_assoc]⟩, fun b hb nb => ?_, g.freshNo, g.noK, g.keep⟩
  rcases List.mem_append.mp hb with hb | hb
  · exact g.fresh b hb nb
  · have e : b = a := by simpa using hb
    rw [e]
    exact n
theorem Grow.free {a : Addr} (g : Grow am am' H H') (h : a ∉ am'.ad) (n : a ∉ am.no) : Grow am (am'.free a h) H H' := ⟨g.pre, g.fresh, fun b hb nb => g.freshNo b (List.mem_filter.mp hb).1 nb, fun b hb => List.mem_filter.mpr ⟨g.noK b hb, decide_eq_true fun e => n (by rw [← e]; exact hb)⟩, g.keep⟩
theorem RelS.push (r : RelS K cl am S H) {a : Addr} {o : DO} (h : a ∈ am.no) (n : a ∉ am.ad) (ho : OR K cl am H a o) : RelS K cl (am.push a h) (S ++ [o]) H := by
  refine ⟨?_, ?_, fun k u b h1 h2 => ?_, r.there⟩
  · show (am.ad ++ [a]).length = (S ++ [o]).length
    rw [List.length_append, List.length_append, r.len]
    rfl
  · show (am.ad ++ [a]).Nodup
    exact nd_snoc r.nd n
  · have h2 : (am.ad ++ [a])[k]? = some b := h2
    by_cases hk : k < S.length
    · rw [List.getElem?_append_left hk] at h1
      rw [List.getElem?_append_left (by rw [r.len]; exact hk)] at h2
      exact (r.ob k u b h1 h2).ext (Ext.push h) fun _ z => z
    · have hk' : S.length ≤ k := Nat.le_of_not_lt hk
      rw [List.getElem?_append_right hk'] at h1
      rw [List.getElem?_append_right (by rw [r.len]; exact hk'), r.len] at h2
      cases e : k - S.length with
      | zero =>
        rw [e] at h1 h2
        cases h1
        cases h2
        exact ho.ext (Ext.push h) fun _ z => z
      | succ m => rw [e] at h1; simp at h1
theorem RelS.free (r : RelS K cl am S H) {a : Addr} (h : a ∉ am.ad) : RelS K cl (am.free a h) S H :=
  ⟨r.len, r.nd, fun k u b h1 h2 => (r.ob k u b h1 h2).ext (Ext.free h) fun _ z => z, fun b hb => r.there b (List.mem_filter.mp hb).1⟩
end
section
variable {K : PySem.W.Frag} {cl : Str → Addr} {am am' : AM} {H H' : Hp} {S S' : Sto}
theorem VRs.length : ∀ {ds : List D} {vs : List V}, VRs K am H ds vs → ds.length = vs.length
  | _, _, .nil => rfl
  | _, _, .cons _ t => by rw [List.length_cons, List.length_cons, VRs.length t]
theorem VRs.get : ∀ {ds : List D} {vs : List V} {i : Nat} {d : D}, VRs K am H ds vs → ds[i]? = some d → ∃ v, vs[i]? = some v ∧ VR K am H d v
  | _, _, i, _, .nil, h => by simp at h
  | _, _, 0, _, .cons h _, e => by simp at e; subst e; exact ⟨_, rfl, h⟩
  | _, _, i + 1, _, .cons _ t, e => by
    obtain ⟨v, h1, h2⟩ := VRs.get (i := i) t (by simpa using e)
    exact ⟨v, by simpa using h1, h2⟩
theorem VRs.append : ∀ {ds es : List D} {vs us : List V}, VRs K am H ds vs → VRs K am H es us → VRs K am H (ds ++ es) (vs ++ us)
  | _, _, _, _, .nil, h => h
  | _, _, _, _, .cons h t, h' => .cons h (VRs.append t h')
theorem VRs.take : ∀ {ds : List D} {vs : List V} (n : Nat), VRs K am H ds vs → VRs K am H (ds.take n) (vs.take n)
  | _, _, 0, _ => by simpa using VRs.nil
  | _, _, n + 1, .nil => by simpa using VRs.nil
  | _, _, n + 1, .cons h t => by simpa using VRs.cons h (VRs.take n t)
theorem VRs.drop : ∀ {ds : List D} {vs : List V} (n : Nat), VRs K am H ds vs → VRs K am H (ds.drop n) (vs.drop n)
  | _, _, 0, h => by simpa using h
  | _, _, n + 1, .nil => by simpa using VRs.nil
  | _, _, n + 1, .cons h t => by simpa using VRs.drop n t
theorem VRs.setA : ∀ {ds : List D} {vs : List V} (i : Nat) {d : D} {v : V}, VRs K am H ds vs → VR K am H d v → VRs K am H (ds.set i d) (vs.set i v)
  | _, _, _, _, _, .nil, _ => by simpa using VRs.nil
  | _, _, 0, _, _, .cons _ t, h => by simpa using VRs.cons h t
  | _, _, i + 1, _, _, .cons h t, h' => by simpa using VRs.cons h (VRs.setA i t h')
theorem VRs.nil_iff {ds : List D} {vs : List V} (h : VRs K am H ds vs) : vs = [] ↔ ds = [] := by
  cases h with
  | nil => simp
  | cons _ _ => simp
theorem VRs.reverse : ∀ {ds : List D} {vs : List V}, VRs K am H ds vs → VRs K am H ds.reverse vs.reverse
  | _, _, .nil => .nil
  | _, _, .cons h t => by
    rw [List.reverse_cons, List.reverse_cons]
    exact (VRs.reverse t).append (.cons h .nil)
/-- a new tuple -/
theorem VR.tupNew {ds : List D} {vs : List V} {p : Addr} {o : Obj} (r : RelS K cl am S H) (h : VRs K am H ds vs) (hp : H p = none) (ho : o.dict = none) : VR K am (upd H p (.frz o (.tup vs))) (.tup ds) (.ref p) :=
  .tup (.inl ⟨o, upd_same, ho, r.new hp⟩) (h.mono (Grow.upd hp))
theorem VR.tpiNew {ds : List D} {vs : List V} {p : Addr} (r : RelS K cl am S H) (h : VRs K am H ds vs) (hp : H p = none) : VR K am (upd H p (.tup vs)) (.tpi ds) (.ref p) :=
  .tpi ⟨.inl upd_same, r.new hp⟩ (h.mono (Grow.upd hp))
theorem VR.lstNew {ds : List D} {vs : List V} {p : Addr} (r : RelS K cl am S H) (h : VRs K am H ds vs) (hp : H p = none) : VR K am (upd H p (.lst vs)) (.lst ds) (.ref p) :=
  .lst upd_same (r.new hp) (h.mono (Grow.upd hp))
end
/-- of an evaluation: R ties the pure result to the real one; W is what is wished of an exception at the slots σ -/
noncomputable def Post (K : PySem.W.Frag) (cl : Str → Addr) (W : WX) (σ : L2.St) {α β : Type} (R : AM → Hp → α → β → Prop) (am : AM) (H : Hp) (r : Res α) (Q : β → Hp → Prop) : Prop := match r with
  | .ok a S => ∀ am' b H', Grow am am' H H' → RelS K cl am' S H' → R am' H' a b → Q b H'
  | .exc c S => ∀ am' H', Grow am am' H H' → RelS K cl am' S H' → W (.ref (cl c)) none σ H'
  | .bad => False
/-- the reading of a pure evaluation -/
noncomputable def TD (K : PySem.W.Frag) (cl : Str → Addr) (W : WX) {α β : Type} (R : AM → Hp → α → β → Prop) (f : Ev α) : L2.St → Hp → (β → Hp → Prop) → Prop := fun σ H Q =>
  ∃ am e S, RelS K cl am S H ∧ RelE K am H e σ ∧ Post K cl W σ R am H (f e S) Q
noncomputable abbrev RB : AM → Hp → Bool → Bool → Prop := fun _ _ a b => a = b
noncomputable def PostS (K : PySem.W.Frag) (cl : Str → Addr) (W : WX) (am : AM) (H : Hp) (r : SRes) (E : Ends) : Prop := match r with
  | .next e S => ∀ am' σ H', Grow am am' H H' → RelS K cl am' S H' → RelE K am' H' e σ → E.nx σ H'
  | .brk e S => ∀ am' σ H', Grow am am' H H' → RelS K cl am' S H' → RelE K am' H' e σ → E.bk σ H'
  | .cnt e S => ∀ am' σ H', Grow am am' H H' → RelS K cl am' S H' → RelE K am' H' e σ → E.ct σ H'
  | .ret d S => ∀ am' v H', Grow am am' H H' → RelS K cl am' S H' → VR K am' H' d v → E.rt v H'
  | .exc c e S => ∀ am' σ H', Grow am am' H H' → RelS K cl am' S H' → RelE K am' H' e σ → W (.ref (cl c)) none σ H'
  | .bad => False
noncomputable def TDs (K : PySem.W.Frag) (cl : Str → Addr) (W : WX) (f : Stm) : TS := fun E σ H => ∃ am e S, RelS K cl am S H ∧ RelE K am H e σ ∧ PostS K cl W am H (f e S) E
section
variable {K : PySem.W.Frag} {cl : Str → Addr} {W : WX} {σ : L2.St} {α β γ δ : Type} {R : AM → Hp → α → β → Prop} {R' : AM → Hp → γ → δ → Prop} {am am' : AM} {H H' : Hp} {S : Sto}
theorem Post.imp {r : Res α} {Q Q' : β → Hp → Prop} (p : Post K cl W σ R am H r Q) (h : ∀ b H', Q b H' → Q' b H') : Post K cl W σ R am H r Q' := by
  cases r with
  | ok a S => exact fun am' b H' g rs rb => h _ _ (p am' b H' g rs rb)
  | exc c S => exact p
  | bad => exact p
/-- a step of an evaluation, then the rest -/
theorem Post.step {r : Res α} {k : α → Sto → Res γ} {Q : δ → Hp → Prop} (p : Post K cl W σ R' am H (r.bind k) Q) :
    Post K cl W σ R am H r (fun b H1 => ∃ am1 S1 a, r = .ok a S1 ∧ Grow am am1 H H1 ∧ RelS K cl am1 S1 H1 ∧ R am1 H1 a b ∧ Post K cl W σ R' am1 H1 (k a S1) Q) := by
  cases r with
  | ok a S =>
    intro am1 b H1 g rs rb
    refine ⟨am1, S, a, rfl, g, rs, rb, ?_⟩
    have p : Post K cl W σ R' am H (k a S) Q := p
    cases e : k a S with
    | ok c S2 =>
      rw [e] at p
      exact fun am2 d H2 g2 rs2 rd => p am2 d H2 (g.trans g2) rs2 rd
    | exc c S2 =>
      rw [e] at p
      exact fun am2 H2 g2 rs2 => p am2 H2 (g.trans g2) rs2
    | bad => rw [e] at p; exact p
  | exc c S => exact p
  | bad => exact p
theorem PostS.grow {r : SRes} {E : Ends} (g : Grow am am' H H') (p : PostS K cl W am H r E) : PostS K cl W am' H' r E := by
  cases r with
  | next e S => exact fun am2 σ H2 g2 rs re => p am2 σ H2 (g.trans g2) rs re
  | brk e S => exact fun am2 σ H2 g2 rs re => p am2 σ H2 (g.trans g2) rs re
  | cnt e S => exact fun am2 σ H2 g2 rs re => p am2 σ H2 (g.trans g2) rs re
  | ret d S => exact fun am2 v H2 g2 rs rv => p am2 v H2 (g.trans g2) rs rv
  | exc c e S => exact fun am2 σ H2 g2 rs re => p am2 σ H2 (g.trans g2) rs re
  | bad => exact p
/-- an evaluation, then a statement's rest -/
noncomputable def Res.stm {α : Type} (r : Res α) (e : En) (k : α → Sto → SRes) : SRes := match r with
  | .ok a S => k a S
  | .exc c S => .exc c e S
  | .bad => .bad
theorem PostS.step {r : Res α} {k : α → Sto → SRes} {E : Ends} {e : En} (re : RelE K am H e σ) (p : PostS K cl W am H (r.stm e k) E) :
    Post K cl W σ R am H r (fun b H1 => ∃ am1 S1 a, r = .ok a S1 ∧ Grow am am1 H H1 ∧ RelS K cl am1 S1 H1 ∧ R am1 H1 a b ∧ PostS K cl W am1 H1 (k a S1) E) := by
  cases r with
  | ok a S =>
    intro am1 b H1 g rs rb
    exact ⟨am1, S, a, rfl, g, rs, rb, PostS.grow g p⟩
  | exc c S => exact fun am' H' g rs => p am' σ H' g rs (re.mono g)
  | bad => exact p
end
@[simp] theorem Res.stm_ok {α : Type} {a : α} {S : Sto} {e : En} {k : α → Sto → SRes} : (Res.ok a S).stm e k = k a S := id rfl
@[simp] theorem Res.stm_exc {α : Type} {c : Str} {S : Sto} {e : En} {k : α → Sto → SRes} : (Res.exc c S : Res α).stm e k = .exc c e S := id rfl
@[simp] theorem Res.stm_bad {α : Type} {e : En} {k : α → Sto → SRes} : (Res.bad : Res α).stm e k = .bad := id rfl
noncomputable def SRes.seq (r : SRes) (k : En → Sto → SRes) : SRes := match r with
  | .next e S => k e S
  | r => r
@[simp] theorem SRes.seq_next {e : En} {S : Sto} {k : En → Sto → SRes} : (SRes.next e S).seq k = k e S := id rfl
@[simp] theorem SRes.seq_ret {d : D} {S : Sto} {k : En → Sto → SRes} : (SRes.ret d S).seq k = .ret d S := id rfl
@[simp] theorem SRes.seq_brk {e : En} {S : Sto} {k : En → Sto → SRes} : (SRes.brk e S).seq k = .brk e S := id rfl
@[simp] theorem SRes.seq_cnt {e : En} {S : Sto} {k : En → Sto → SRes} : (SRes.cnt e S).seq k = .cnt e S := id rfl
@[simp] theorem SRes.seq_exc {c : Str} {e : En} {S : Sto} {k : En → Sto → SRes} : (SRes.exc c e S).seq k = .exc c e S := id rfl
@[simp] theorem SRes.seq_bad {k : En → Sto → SRes} : (SRes.bad).seq k = .bad := id rfl
section
variable {X : Cx}
theorem _root_.L2.PE.imp {e : Expr} {t t' : TE} (h : PE X e t) (i : ∀ σ H Q, t' σ H Q → t σ H Q) : PE X e t' := ⟨fun pins s σ H Q I q => h.run pins s σ H Q I (i σ H Q q)⟩
theorem _root_.L2.PT.imp {e : Expr} {t t' : TT} (h : PT X e t) (i : ∀ σ H Q, t' σ H Q → t σ H Q) : PT X e t' := ⟨fun pins s σ H Q I q => h.run pins s σ H Q I (i σ H Q q)⟩
theorem _root_.L2.PW.imp {e : Expr} {t t' : TT} (h : PW X e t) (i : ∀ σ H Q, t' σ H Q → t σ H Q) : PW X e t' := ⟨fun wh pins s σ H Q I q => h.run wh pins s σ H Q I (i σ H Q q)⟩
theorem _root_.L2.PA.imp {es : List Expr} {t t' : TA} (h : PA X es t) (i : ∀ σ H Q, t' σ H Q → t σ H Q) : PA X es t' := ⟨fun pos pins s σ H Q I q => h.run pos pins s σ H Q I (i σ H Q q)⟩
theorem _root_.L2.PS.imp {st : Stmt} {t t' : TS} (h : PS X st t) (i : ∀ E σ H, t' E σ H → t E σ H) : PS X st t' := ⟨fun pins s σ H E I q => h.run pins s σ H E I (i E σ H q)⟩
theorem _root_.L2.PSs.imp {st : List Stmt} {t t' : TS} (h : PSs X st t) (i : ∀ E σ H, t' E σ H → t E σ H) : PSs X st t' := ⟨fun pins s σ H E I q => h.run pins s σ H E I (i E σ H q)⟩
end
noncomputable abbrev QE (cl : Str → Addr) (W : WX) (X : Cx) (e : Expr) (f : Ev D) : Prop := PE X e (TD X.K cl W (VR X.K) f)
noncomputable abbrev QT (cl : Str → Addr) (W : WX) (X : Cx) (e : Expr) (f : Ev Bool) : Prop := PT X e (TD X.K cl W RB f)
noncomputable abbrev QW (cl : Str → Addr) (W : WX) (X : Cx) (e : Expr) (f : Ev Bool) : Prop := PW X e (TD X.K cl W RB f)
noncomputable abbrev QA (cl : Str → Addr) (W : WX) (X : Cx) (es : List Expr) (f : Ev (List D)) : Prop := PA X es (TD X.K cl W (VRs X.K) f)
noncomputable abbrev QS (cl : Str → Addr) (W : WX) (X : Cx) (st : Stmt) (f : Stm) : Prop := PS X st (TDs X.K cl W f)
noncomputable abbrev QB (cl : Str → Addr) (W : WX) (X : Cx) (st : List Stmt) (f : Stm) : Prop := PSs X st (TDs X.K cl W f)
end Pu
set_option Elab.async false
set_option linter.all false
set_option maxRecDepth 100000
namespace Pu
open PySem PySem.Spec PyProof.Rows L2
/-- a list that may be read -/
noncomputable def lsOf (S : Sto) : D → Option (List D)
  | .lst xs => some xs
  | .fls xs => some xs
  | .ref k => match S[k]? with
    | some (.lst xs) => some xs
    | _ => none
  | _ => none
/-- a list that is not locked -/
noncomputable def lvOf (S : Sto) : D → Option (List D)
  | .lst xs => some xs
  | .ref k => match S[k]? with
    | some (.lst xs) => some xs
    | _ => none
  | _ => none
noncomputable def dcOf (S : Sto) : D → Option (List (Key × D))
  | .dct xs => some xs
  | .ref k => match S[k]? with
    | some (.dct xs) => some xs
    | _ => none
  | _ => none
@[simp] theorem lsOf_lst {S : Sto} {xs : List D} : lsOf S (.lst xs) = some xs := id rfl
@[simp] theorem lsOf_ref {S : Sto} {k : Nat} {xs : List D} (h : S[k]? = some (.lst xs)) : lsOf S (.ref k) = some xs := by
  simp only [lsOf, h]
@[simp] theorem lsOf_fls {S : Sto} {xs : List D} : lsOf S (.fls xs) = some xs := id rfl
@[simp] theorem lvOf_lst {S : Sto} {xs : List D} : lvOf S (.lst xs) = some xs := id rfl
@[simp] theorem lvOf_ref {S : Sto} {k : Nat} {xs : List D} (h : S[k]? = some (.lst xs)) : lvOf S (.ref k) = some xs := by
  simp only [lvOf, h]
@[simp] theorem dcOf_dct {S : Sto} {xs : List (Key × D)} : dcOf S (.dct xs) = some xs := id rfl
@[simp] theorem dcOf_ref {S : Sto} {k : Nat} {xs : List (Key × D)} (h : S[k]? = some (.dct xs)) : dcOf S (.ref k) = some xs := by
  simp only [dcOf, h]
section
variable {K : PySem.W.Frag} {cl : Str → Addr} {am : AM} {H : Hp} {S : Sto} {d : D} {v : V}
theorem lsOf_ok (r : RelS K cl am S H) (h : VR K am H d v) {xs : List D} (e : lsOf S d = some xs) : ∃ a vs, v = .ref a ∧ SqL K H a vs ∧ VRs K am H xs vs := by
  cases h with
  | lst h1 h2 h3 =>
    cases e
    exact ⟨_, _, rfl, .inl (.inl h1), h3⟩
  | fls h1 h3 =>
    cases e
    exact ⟨_, _, rfl, h1.seq, h3⟩
  | ref h1 =>
    rename_i n a
    simp only [lsOf] at e
    cases q : S[n]? with
    | none => rw [q] at e; cases e
    | some o =>
      rw [q] at e
      cases o with
      | lst ys =>
        cases e
        obtain ⟨vs, h2, h3⟩ := r.ob n _ a q h1
        exact ⟨a, vs, rfl, .inl (.inl h2), h3⟩
      | dct ys => cases e
      | ins c fs => cases e
  | _ => cases e
theorem lvOf_ok (r : RelS K cl am S H) (h : VR K am H d v) {xs : List D} (e : lvOf S d = some xs) : ∃ a vs, v = .ref a ∧ H a = some (.lst vs) ∧ VRs K am H xs vs := by
  cases h with
  | lst h1 h2 h3 =>
    cases e
    exact ⟨_, _, rfl, h1, h3⟩
  | ref h1 =>
    rename_i n a
    simp only [lvOf] at e
    cases q : S[n]? with
    | none => rw [q] at e; cases e
    | some o =>
      rw [q] at e
      cases o with
      | lst ys =>
        cases e
        obtain ⟨vs, h2, h3⟩ := r.ob n _ a q h1
        exact ⟨a, vs, rfl, h2, h3⟩
      | dct ys => cases e
      | ins c fs => cases e
  | _ => cases e
theorem dcOf_ok (r : RelS K cl am S H) (h : VR K am H d v) {xs : List (Key × D)} (e : dcOf S d = some xs) : ∃ a vs, v = .ref a ∧ H a = some (.dK vs) ∧ VRk K am H xs vs := by
  cases h with
  | dct h1 h2 h3 =>
    cases e
    exact ⟨_, _, rfl, h1, h3⟩
  | ref h1 =>
    rename_i n a
    simp only [dcOf] at e
    cases q : S[n]? with
    | none => rw [q] at e; cases e
    | some o =>
      rw [q] at e
      cases o with
      | dct ys =>
        cases e
        obtain ⟨vs, h2, h3⟩ := r.ob n _ a q h1
        exact ⟨a, vs, rfl, h2, h3⟩
      | lst ys => cases e
      | ins c fs => cases e
  | _ => cases e
end
noncomputable def eC (d : D) : Ev D := fun _ S => .ok d S
noncomputable def eVar (i : Nat) : Ev D := fun e S => match e[i]? with
  | some (some d) => .ok d S
  | _ => .bad
section
variable {cl : Str → Addr} {W : WX} {X : Cx}
theorem imp_c {d : D} {v : V} (h : ∀ am H, VR X.K am H d v) : ∀ σ H Q, TD X.K cl W (VR X.K) (eC d) σ H Q → tC v σ H Q := fun σ H Q ⟨am, e, S, rs, re, p⟩ => p am v H .refl rs (h am H)
theorem qe_int {i j pos} : QE cl W X (.Constant (.int i) j pos) (eC (.int i)) := pe_int.imp (imp_c fun _ _ => .int i)
theorem qe_bl {b j pos} : QE cl W X (.Constant (.bool b) j pos) (eC (.bl b)) := pe_bl.imp (imp_c fun _ _ => .bl b)
theorem qe_non {j pos} : QE cl W X (.Constant .none j pos) (eC .non) := pe_non.imp (imp_c fun _ _ => .non)
theorem qe_str {x j pos} : QE cl W X (.Constant (.str x) j pos) (eC (.str x)) := pe_str.imp (imp_c fun _ _ => .str x)
theorem qe_glob {x : Str} {d : D} {v : V} {u : Value} {pos : Pos} (hg : Gl X x) (hm : X.mg x = some u) (r : RelV v u) (h : ∀ am H, VR X.K am H d v) (hd : (x == ("__debug__" : Str)) = false := by decide) : QE cl W X (.Name x pos) (eC d) :=
  (pe_glob hg hm r hd).imp (imp_c h)
theorem qv (i : Nat) {x : Str} {pos : Pos} (hN : X.N[i]? = some x := by rfl) (hv : Vis X.env.scope x := by first | exact Or.inl rfl | exact Or.inr (Or.inl rfl) | exact Or.inr (Or.inr rfl)) (hd : (x == ("__debug__" : Str)) = false := by decide)
    (hcd : (x == ("__classdict__" : Str)) = false := by decide) : QE cl W X (.Name x pos) (eVar i) := (pe_var hN hv hd hcd).imp fun σ H Q ⟨am, e, S, rs, re, p⟩ => by
  unfold eVar at p
  cases q : e[i]? with
  | none => rw [q] at p; exact p.elim
  | some z =>
    rw [q] at p
    cases z with
    | none => exact p.elim
    | some d =>
      obtain ⟨v, h1, h2⟩ := re.get i d q
      exact ⟨v, h1, p am v H .refl rs h2⟩
end
noncomputable def e2 (op : D → D → Sto → Res D) (f g : Ev D) : Ev D := fun e S => (f e S).bind fun x S => (g e S).bind fun y S => op x y S
noncomputable def e1 (op : D → Sto → Res D) (f : Ev D) : Ev D := fun e S => (f e S).bind fun x S => op x S
noncomputable def Ok2 (K : PySem.W.Frag) (cl : Str → Addr) (r : R2) (op : D → D → Sto → Res D) : Prop :=
  ∀ (W : WX) (σ : L2.St) (am : AM) (S : Sto) (H : Hp) (d e : D) (v u : V) (Q : VK), RelS K cl am S H → VR K am H d v → VR K am H e u → Post K cl W σ (VR K) am H (op d e S) Q → r v u H Q
noncomputable def Ok1 (K : PySem.W.Frag) (cl : Str → Addr) (r : V → Hp → VK → Prop) (op : D → Sto → Res D) : Prop :=
  ∀ (W : WX) (σ : L2.St) (am : AM) (S : Sto) (H : Hp) (d : D) (v : V) (Q : VK), RelS K cl am S H → VR K am H d v → Post K cl W σ (VR K) am H (op d S) Q → r v H Q
section
variable {cl : Str → Addr} {W : WX} {X : Cx} {a b c : Expr} {f g h : Ev D} {pos : Pos}
theorem imp_2 {r : R2} {op : D → D → Sto → Res D} (ok : Ok2 X.K cl r op) : ∀ σ H Q, TD X.K cl W (VR X.K) (e2 op f g) σ H Q → tOp r (TD X.K cl W (VR X.K) f) (TD X.K cl W (VR X.K) g) σ H Q := fun σ H Q ⟨am, e, S, rs, re, p⟩ =>
  ⟨am, e, S, rs, re, (Post.step p).imp fun x H1 ⟨am1, S1, d1, _, g1, rs1, rv1, p1⟩ =>
    ⟨am1, e, S1, rs1, re.mono g1, (Post.step p1).imp fun y H2 ⟨am2, S2, d2, _, g2, rs2, rv2, p2⟩ => ok W σ am2 S2 H2 d1 d2 x y Q rs2 (rv1.mono g2) rv2 p2⟩⟩
theorem imp_1 {r : V → Hp → VK → Prop} {op : D → Sto → Res D} (ok : Ok1 X.K cl r op) : ∀ σ H Q, TD X.K cl W (VR X.K) (e1 op f) σ H Q → tUn r (TD X.K cl W (VR X.K) f) σ H Q := fun σ H Q ⟨am, e, S, rs, re, p⟩ =>
  ⟨am, e, S, rs, re, (Post.step p).imp fun x H1 ⟨am1, S1, d1, _, g1, rs1, rv1, p1⟩ => ok W σ am1 S1 H1 d1 x Q rs1 rv1 p1⟩
theorem qe_bin {op : Operator} {r : R2} {o : D → D → Sto → Res D} (ho : OpR X (binaryOp op) r) (ok : Ok2 X.K cl r o) (ha : QE cl W X a f) (hb : QE cl W X b g) : QE cl W X (.BinOp a op b pos) (e2 o f g) := (pe_op ho ha hb).imp (imp_2 ok)
theorem qe_un {op : UnaryOp} {r : V → Hp → VK → Prop} {o : D → Sto → Res D} (ho : UnR X (unaryOp op) r) (ok : Ok1 X.K cl r o) (ha : QE cl W X a f) : QE cl W X (.UnaryOp op a pos) (e1 o f) := (pe_un ho ha).imp (imp_1 ok)
/-- a value that has to be True or False -/
noncomputable def toB (d : D) (S : Sto) : Res Bool := match d with
  | .bl b => .ok b S
  | _ => .bad
@[simp] theorem toB_bl {b : Bool} {S : Sto} : toB (.bl b) S = .ok b S := id rfl
noncomputable def eTB (f : Ev D) : Ev Bool := fun e S => (f e S).bind toB
theorem imp_TB : ∀ σ H Q, TD X.K cl W RB (eTB f) σ H Q → TD X.K cl W (VR X.K) f σ H (fun x H' => ∃ k, x = .bl k ∧ Q k H') := fun σ H Q ⟨am, e, S, rs, re, p⟩ =>
  ⟨am, e, S, rs, re, (Post.step p).imp fun x H1 ⟨am1, S1, d1, _, g1, rs1, rv1, p1⟩ => by
    cases d1 with
    | bl b =>
      cases rv1
      exact ⟨b, rfl, p1 am1 b H1 .refl rs1 rfl⟩
    | _ => exact p1.elim⟩
theorem qe_cmp {op : CmpOp} {r : R2} {o : D → D → Sto → Res D} (ho : OpR X (compareOp op) r) (ok : Ok2 X.K cl r o) (ha : QE cl W X a f) (hb : QE cl W X b g) (hm : behindInMarks op b = false) : QE cl W X (.Compare a [op] [b] pos) (e2 o f g) := (pe_cmpR ho ha hb hm).imp (imp_2 ok)
theorem qt_cmp {op : CmpOp} {r : R2} {o : D → D → Sto → Res D} (ho : OpR X (compareOp op) r) (ok : Ok2 X.K cl r o) (ha : QE cl W X a f) (hb : QE cl W X b g) (hm : behindInMarks op b = false) : QT cl W X (.Compare a [op] [b] pos) (eTB (e2 o f g)) :=
  (pt_cmpR ho ha hb hm).imp fun σ H Q t => imp_2 ok _ _ _ (imp_TB _ _ _ t)
/-- a op1 b op2 c -/
noncomputable def eCh (o o' : D → D → Sto → Res D) (f g h : Ev D) : Ev D := fun e S => (f e S).bind fun x S => (g e S).bind fun y S => (o x y S).bind fun z S => (toB z S).bind fun k S =>
  if k = true then (h e S).bind fun w S => o' y w S else .ok (.bl false) S
/-- what an operation that changes nothing gives -/
noncomputable def Ok2b (K : PySem.W.Frag) (cl : Str → Addr) (r : R2) (op : D → D → Sto → Res D) : Prop := Ok2 K cl r op ∧ ∀ d e S, ∃ o : Option Bool, op d e S = (opt o S).bind fun b S => .ok (.bl b) S
theorem imp_ch {r r' : R2} {o o' : D → D → Sto → Res D} (ok : Ok2b X.K cl r o) (ok' : Ok2 X.K cl r' o') : ∀ σ H Q, TD X.K cl W (VR X.K) (eCh o o' f g h) σ H Q → tChain r r' (TD X.K cl W (VR X.K) f) (TD X.K cl W (VR X.K) g) (TD X.K cl W (VR X.K) h) σ H Q := fun σ H Q ⟨am, e, S, rs, re, p⟩ =>
  ⟨am, e, S, rs, re, (Post.step p).imp fun x H1 ⟨am1, S1, d1, _, g1, rs1, rv1, p1⟩ =>
    ⟨am1, e, S1, rs1, re.mono g1, (Post.step p1).imp fun y H2 ⟨am2, S2, d2, _, g2, rs2, rv2, p2⟩ => by
      obtain ⟨ob, eo⟩ := ok.2 d1 d2 S2
      refine ok.1 W σ am2 S2 H2 d1 d2 x y _ rs2 (rv1.mono g2) rv2 ?_
      rw [eo] at p2 ⊢
      cases ob with
      | none => exact p2.elim
      | some b =>
        intro am3 z H3 g3 rs3 rv3
        cases rv3
        refine ⟨b, rfl, ?_⟩
        have p3 : Post X.K cl W σ (VR X.K) am2 H2 (if b = true then (h e S2).bind fun w S => o' d2 w S else .ok (.bl false) S2) Q := p2
        cases b with
        | false =>
          show Q (.bl false) H3
          exact p3 am3 _ H3 g3 rs3 (.bl false)
        | true =>
          show TD X.K cl W (VR X.K) h σ H3 _
          refine ⟨am3, e, S2, rs3, re.mono (g1.trans (g2.trans g3)), ?_⟩
          have p4 : Post X.K cl W σ (VR X.K) am2 H2 ((h e S2).bind fun w S => o' d2 w S) Q := p3
          have p5 : Post X.K cl W σ (VR X.K) am3 H3 ((h e S2).bind fun w S => o' d2 w S) Q := by
            cases q : (h e S2).bind fun w S => o' d2 w S with
            | ok a S => rw [q] at p4; exact fun am' b H' gg => p4 am' b H' (g3.trans gg)
            | exc c S => rw [q] at p4; exact fun am' H' gg => p4 am' H' (g3.trans gg)
            | bad => rw [q] at p4; exact p4
          exact (Post.step p5).imp fun w H4 ⟨am4, S4, d4, _, g4, rs4, rv4, p6⟩ => ok' W σ am4 S4 H4 d2 d4 y w Q rs4 ((rv2.mono g3).mono g4) rv4 p6⟩⟩
theorem qt_chain {op op' : CmpOp} {r r' : R2} {o o' : D → D → Sto → Res D} (ho : OpR X (compareOp op) r) (ok : Ok2b X.K cl r o) (ho' : OpR X (compareOp op') r') (ok' : Ok2 X.K cl r' o') (ha : QE cl W X a f) (hb : QE cl W X b g) (hc : QE cl W X c h)
    (hm : lastMarks [op, op'] [b, c] = false := by with_unfolding_all rfl) : QT cl W X (.Compare a [op, op'] [b, c] pos) (eTB (eCh o o' f g h)) := (pt_chain ho ho' ha hb hc hm).imp fun σ H Q t => imp_ch ok ok' _ _ _ (imp_TB _ _ _ t)
end
noncomputable def catL (x y : Option (List D)) (S : Sto) : Res D := match x, y with
  | some a, some b => if a.length + b.length ≤ sizeLine then .ok (.lst (a ++ b)) S else .bad
  | _, _ => .bad
noncomputable def addD (d e : D) (S : Sto) : Res D := match d, e with
  | .int a, .int b => .ok (.int (a + b)) S
  | .str a, .str b => if a.length + b.length ≤ sizeLine then .ok (.str (a ++ b)) S else .bad
  | .tup a, .tup b => if a.length + b.length ≤ sizeLine then .ok (.tup (a ++ b)) S else .bad
  | _, _ => catL (lvOf S d) (lvOf S e) S
noncomputable def FitMul (i j : Int) : Prop := (-(2 ^ 64) < i ∧ i < 2 ^ 64) ∨ (-(2 ^ 64) < j ∧ j < 2 ^ 64) ∨ (Builtin.Int.intBits i : Int) + (Builtin.Int.intBits j : Int) ≤ 134217728
noncomputable instance (i j : Int) : Decidable (FitMul i j) := by unfold FitMul; infer_instance
/-- ints in, a value out -/
noncomputable def intD (C : Int → Int → Prop) [∀ i j, Decidable (C i j)] (g : Int → Int → D) (d e : D) (S : Sto) : Res D := match d, e with
  | .int a, .int b => if C a b then .ok (g a b) S else .bad
  | _, _ => .bad
@[simp] theorem intD_int {C : Int → Int → Prop} [∀ i j, Decidable (C i j)] {g : Int → Int → D} {a b : Int} {S : Sto} : intD C g (.int a) (.int b) S = if C a b then .ok (g a b) S else .bad := id rfl
noncomputable abbrev subD := intD (fun _ _ => True) fun i j => .int (i - j)
/-- // and % as Python has them, by a divisor that is not 0 -/
noncomputable def fdivI (i j : Int) : Int := if 0 < j then i / j else (-i) / (-j)
noncomputable def fmodI (i j : Int) : Int := if 0 < j then i % j else -((-i) % (-j))
noncomputable def DivOk (_ j : Int) : Prop := (0 < j ∧ j.natAbs.log2 < 9000) ∨ (j ≠ 0 ∧ j.natAbs < 1073741824)
noncomputable instance (i j : Int) : Decidable (DivOk i j) := by unfold DivOk; infer_instance
noncomputable abbrev fdivD := intD DivOk fun i j => .int (fdivI i j)
noncomputable abbrev modD := intD (fun _ j => j ≠ 0) fun i j => .int (fmodI i j)
noncomputable def PowOk (i j : Int) : Prop := 0 ≤ j ∧ (Builtin.Int.intBits i : Int) * j ≤ 2 ^ 27
noncomputable instance (i j : Int) : Decidable (PowOk i j) := by unfold PowOk; infer_instance
noncomputable abbrev powD := intD PowOk fun i j => .int (i ^ j.toNat)
noncomputable abbrev ltD := intD (fun _ _ => True) fun i j => .bl (decide (i < j))
noncomputable abbrev leD := intD (fun _ _ => True) fun i j => .bl (decide (i ≤ j))
noncomputable abbrev gtD := intD (fun _ _ => True) fun i j => .bl (decide (j < i))
noncomputable abbrev geD := intD (fun _ _ => True) fun i j => .bl (decide (j ≤ i))
noncomputable abbrev bitAndD := intD (fun _ _ => True) fun i j => .int (Builtin.bitAnd i j)
noncomputable abbrev shrD := intD (fun _ j => 0 ≤ j) fun i j => .int (i / 2 ^ j.toNat)
theorem fdivI_eq (i j : Int) (h : j ≠ 0) : i.fdiv j = fdivI i j := by
  unfold fdivI
  by_cases h0 : 0 < j
  · rw [if_pos h0, Int.fdiv_eq_ediv_of_nonneg i (by omega)]
  · rw [if_neg h0]
    have e : i.fdiv j = (-i).fdiv (-j) := by rw [Int.neg_fdiv_neg]
    rw [e, Int.fdiv_eq_ediv_of_nonneg _ (by omega)]
theorem fmodI_eq (i j : Int) (h : j ≠ 0) : i.fmod j = fmodI i j := by
  unfold fmodI
  by_cases h0 : 0 < j
  · rw [if_pos h0, Int.fmod_eq_emod_of_nonneg i (by omega)]
  · rw [if_neg h0]
    have e1 : i.fmod j = i - j * i.fdiv j := Int.fmod_def i j
    have e2 : i.fdiv j = (-i) / (-j) := by
      have := fdivI_eq i j h
      unfold fdivI at this
      rw [if_neg h0] at this
      exact this
    have e3 : (-i) % (-j) = -i - (-j) * ((-i) / (-j)) := Int.emod_def _ _
    rw [e1, e2, e3, Int.neg_mul]
    omega
section
variable {cl : Str → Addr} {W : WX} {X : Cx}
theorem ok_intD {C : Int → Int → Prop} [∀ i j, Decidable (C i j)] {g : Int → Int → D} {r : R2} {gv : Int → Int → V} (hg : ∀ am H i j, VR X.K am H (g i j) (gv i j)) (hr : ∀ i j H Q, C i j → Q (gv i j) H → r (.int i) (.int j) H Q) : Ok2 X.K cl r (intD C g) := by
  intro W σ am S H d e v u Q rs h1 h2 p
  cases h1 with
  | int i =>
    cases h2 with
    | int j =>
      rw [intD_int] at p
      by_cases hc : C i j
      · rw [if_pos hc] at p
        exact hr i j H Q hc (p am _ H .refl rs (hg am H i j))
      · rw [if_neg hc] at p
        exact p.elim
    | _ => exact p.elim
  | _ => exact p.elim
theorem ok_add : Ok2 X.K cl (fun x y H Q => (∃ i j, x = .int i ∧ y = .int j ∧ Q (.int (i + j)) H) ∨ (∃ i j, x = .str i ∧ y = .str j ∧ i.length + j.length ≤ sizeLine ∧ Q (.str (i ++ j)) H) ∨ rCatF X.K x y H Q ∨ rCat x y H Q) addD := by
  intro W σ am S H d e v u Q rs h1 h2 p
  have cat : Post X.K cl W σ (VR X.K) am H (catL (lvOf S d) (lvOf S e) S) Q → rCat v u H Q := fun p => by
    cases e1 : lvOf S d with
    | none => rw [e1] at p; exact p.elim
    | some xs =>
      cases e2 : lvOf S e with
      | none => rw [e1, e2] at p; exact p.elim
      | some ys =>
        rw [e1, e2] at p
        obtain ⟨a, vs, ev, r1, hs⟩ := lvOf_ok rs h1 e1
        obtain ⟨b, us, eu, r2, hs2⟩ := lvOf_ok rs h2 e2
        unfold catL at p
        simp only at p
        by_cases hz : xs.length + ys.length ≤ sizeLine
        · rw [if_pos hz] at p
          exact ⟨a, b, vs, us, ev, eu, r1, r2, by rw [← hs.length, ← hs2.length]; exact hz, fun q hq => p am _ _ (Grow.upd hq) (rs.upd hq) (VR.lstNew rs (hs.append hs2) hq)⟩
        · rw [if_neg hz] at p
          exact p.elim
  cases h1 with
  | int i =>
    cases h2 with
    | int j => exact .inl ⟨i, j, rfl, rfl, p am _ H .refl rs (.int _)⟩
    | _ => exact p.elim
  | str x =>
    cases h2 with
    | str y =>
      simp only [addD] at p
      by_cases hz : x.length + y.length ≤ sizeLine
      · rw [if_pos hz] at p
        exact .inr (.inl ⟨x, y, rfl, rfl, hz, p am _ H .refl rs (.str _)⟩)
      · rw [if_neg hz] at p
        exact p.elim
    | _ => exact p.elim
  | @tup a1 vs1 ds1 t1 hs1 =>
    cases h2 with
    | @tup a2 vs2 ds2 t2 hs2 =>
      simp only [addD] at p
      by_cases hz : ds1.length + ds2.length ≤ sizeLine
      · rw [if_pos hz] at p
        refine .inr (.inr (.inl ⟨a1, a2, vs1, vs2, rfl, rfl, t1.seq, t2.seq, by rw [← hs1.length, ← hs2.length]; exact hz, fun e1 => ?_, fun _ e2 => ?_, fun _ _ q ob hq hd => ?_⟩))
        · have e3 := hs1.nil_iff.mp e1
          subst e3
          exact p am _ H .refl rs (.tup t2 hs2)
        · have e3 := hs2.nil_iff.mp e2
          subst e3
          rw [List.append_nil] at p
          exact p am _ H .refl rs (.tup t1 hs1)
        · exact p am _ _ (Grow.upd hq) (rs.upd hq) (VR.tupNew rs (hs1.append hs2) hq hd)
      · rw [if_neg hz] at p
        exact p.elim
    | _ => exact p.elim
  | lst _ _ _ => exact .inr (.inr (.inr (cat (by cases h2 <;> exact p))))
  | ref _ => exact .inr (.inr (.inr (cat (by cases h2 <;> exact p))))
  | _ => cases h2 <;> exact p.elim
theorem op_addD : OpR X (binaryOp .Add) (fun x y H Q => (∃ i j, x = .int i ∧ y = .int j ∧ Q (.int (i + j)) H) ∨ (∃ i j, x = .str i ∧ y = .str j ∧ i.length + j.length ≤ sizeLine ∧ Q (.str (i ++ j)) H) ∨ rCatF X.K x y H Q ∨ rCat x y H Q) :=
  OpR.or (by exact op_add) (OpR.or op_add_str (OpR.or op_catF op_cat))
end
end Pu
set_option Elab.async false
set_option linter.all false
set_option maxRecDepth 100000
namespace Pu
open PySem PySem.Spec PyProof.Rows L2
section
variable {cl : Str → Addr} {W : WX} {X : Cx} {a b c : Expr} {f g h : Ev D} {pos : Pos}
theorem qe_add (ha : QE cl W X a f) (hb : QE cl W X b g) : QE cl W X (.BinOp a .Add b pos) (e2 addD f g) := qe_bin op_addD ok_add ha hb
theorem qe_sub (ha : QE cl W X a f) (hb : QE cl W X b g) : QE cl W X (.BinOp a .Sub b pos) (e2 subD f g) :=
  qe_bin op_sub (ok_intD (gv := fun i j => .int (i - j)) (fun _ _ _ _ => .int _) fun i j H Q _ q => ⟨i, j, rfl, rfl, q⟩) ha hb
/-- * -/
noncomputable def repL (x : Option (List D)) (k : Int) (S : Sto) : Res D := match x with
  | some xs => if -(2 ^ 63) ≤ k ∧ k < 2 ^ 63 ∧ xs.length * k.toNat ≤ sizeLine then .ok (.lst (List.replicate k.toNat xs).flatten) S else .bad
  | none => .bad
noncomputable def mulD (d e : D) (S : Sto) : Res D := match d, e with
  | .int a, .int b => if FitMul a b then .ok (.int (a * b)) S else .bad
  | x, .int k => repL (lvOf S x) k S
  | _, _ => .bad
noncomputable def rMulA : R2 := fun x y H Q => rI CMul (fun i j => .int (i * j)) x y H Q ∨ rI CMulX (fun i j => .int (i * j)) x y H Q ∨ rRep x y H Q
theorem op_mulA : OpR X (binaryOp .Mult) rMulA := OpR.or op_mul (OpR.or op_mulX op_rep)
theorem VRs.replicate {K : PySem.W.Frag} {am : AM} {H : Hp} {ds : List D} {vs : List V} (h : VRs K am H ds vs) : ∀ n, VRs K am H (List.replicate n ds).flatten (List.replicate n vs).flatten
  | 0 => .nil
  | n + 1 => by
    rw [List.replicate_succ, List.replicate_succ, List.flatten_cons, List.flatten_cons]
    exact h.append (VRs.replicate h n)
theorem ok_mul : Ok2 X.K cl rMulA mulD := by
  intro W σ am S H d e v u Q rs h1 h2 p
  have rep : ∀ k, u = .int k → Post X.K cl W σ (VR X.K) am H (repL (lvOf S d) k S) Q → rMulA v u H Q := fun k hu p => by
    cases e1 : lvOf S d with
    | none => rw [e1] at p; exact p.elim
    | some xs =>
      rw [e1] at p
      obtain ⟨a, vs, ev, r1, hs⟩ := lvOf_ok rs h1 e1
      unfold repL at p
      simp only at p
      by_cases hz : -(2 ^ 63) ≤ k ∧ k < 2 ^ 63 ∧ xs.length * k.toNat ≤ sizeLine
      · rw [if_pos hz] at p
        exact .inr (.inr ⟨a, k, vs, ev, hu, r1, hz.1, hz.2.1, by rw [← hs.length]; exact hz.2.2, fun q hq => p am _ _ (Grow.upd hq) (rs.upd hq) (VR.lstNew rs (hs.replicate _) hq)⟩)
      · rw [if_neg hz] at p
        exact p.elim
  cases h2 with
  | int j =>
    cases h1 with
    | int i =>
      simp only [mulD] at p
      by_cases hz : FitMul i j
      · rw [if_pos hz] at p
        have q := p am (.int (i * j)) H .refl rs (.int _)
        rcases hz with hz | hz | hz
        · exact .inl ⟨i, j, rfl, rfl, .inl hz, q⟩
        · exact .inl ⟨i, j, rfl, rfl, .inr hz, q⟩
        · exact .inr (.inl ⟨i, j, rfl, rfl, hz, q⟩)
      · rw [if_neg hz] at p
        exact p.elim
    | _ => exact rep j rfl p
  | _ => cases h1 <;> exact p.elim
theorem qe_mul (ha : QE cl W X a f) (hb : QE cl W X b g) : QE cl W X (.BinOp a .Mult b pos) (e2 mulD f g) := qe_bin op_mulA ok_mul ha hb
theorem op_fdivA : OpR X (binaryOp .FloorDiv) (fun x y H Q => rI CDivW (fun i j => .int (i / j)) x y H Q ∨ rI CDivN (fun i j => .int (i.fdiv j)) x y H Q) := OpR.or op_fdivW op_fdivN
theorem qe_fdiv (ha : QE cl W X a f) (hb : QE cl W X b g) : QE cl W X (.BinOp a .FloorDiv b pos) (e2 fdivD f g) :=
  qe_bin op_fdivA (ok_intD (gv := fun i j => .int (fdivI i j)) (fun _ _ _ _ => .int _) fun i j H Q hc q => by
    rcases hc with hc | hc
    · refine .inl ⟨i, j, rfl, rfl, hc, ?_⟩
      have e : fdivI i j = i / j := if_pos hc.1
      have q' : Q (.int (fdivI i j)) H := q
      rw [e] at q'
      exact q'
    · refine .inr ⟨i, j, rfl, rfl, hc, ?_⟩
      have q' : Q (.int (fdivI i j)) H := q
      rw [← fdivI_eq i j hc.1] at q'
      exact q') ha hb
theorem qe_mod (ha : QE cl W X a f) (hb : QE cl W X b g) : QE cl W X (.BinOp a .Mod b pos) (e2 modD f g) :=
  qe_bin op_modN (ok_intD (gv := fun i j => .int (fmodI i j)) (fun _ _ _ _ => .int _) fun i j H Q hc q => ⟨i, j, rfl, rfl, hc, by
    have q' : Q (.int (fmodI i j)) H := q
    rw [← fmodI_eq i j hc] at q'
    exact q'⟩) ha hb
theorem op_powA : OpR X (binaryOp .Pow) (rI PowOk fun i j => .int (i ^ j.toNat)) := opI fun _ _ _ _ _ _ _ hc q => pow_int hc.1 hc.2 q
theorem qe_pow (ha : QE cl W X a f) (hb : QE cl W X b g) : QE cl W X (.BinOp a .Pow b pos) (e2 powD f g) :=
  qe_bin op_powA (ok_intD (gv := fun i j => .int (i ^ j.toNat)) (fun _ _ _ _ => .int _) fun i j H Q hc q => ⟨i, j, rfl, rfl, hc, q⟩) ha hb
theorem qe_band (ha : QE cl W X a f) (hb : QE cl W X b g) : QE cl W X (.BinOp a .BitAnd b pos) (e2 bitAndD f g) :=
  qe_bin op_and (ok_intD (gv := fun i j => .int (Builtin.bitAnd i j)) (fun _ _ _ _ => .int _) fun i j H Q hc q => ⟨i, j, rfl, rfl, q⟩) ha hb
theorem qe_shr (ha : QE cl W X a f) (hb : QE cl W X b g) : QE cl W X (.BinOp a .RShift b pos) (e2 shrD f g) :=
  qe_bin op_shr (ok_intD (gv := fun i j => .int (i / 2 ^ j.toNat)) (fun _ _ _ _ => .int _) fun i j H Q hc q => ⟨i, j, rfl, rfl, hc, q⟩) ha hb
noncomputable def negD (d : D) (S : Sto) : Res D := match d with
  | .int i => .ok (.int (-i)) S
  | _ => .bad
theorem qe_neg (ha : QE cl W X a f) : QE cl W X (.UnaryOp .USub a pos) (e1 negD f) := qe_un un_neg (fun W σ am S H d v Q rs h1 p => by
  cases h1 with
  | int i => exact ⟨i, rfl, p am _ H .refl rs (.int _)⟩
  | _ => exact p.elim) ha
theorem ok_ltD : Ok2 X.K cl (rI0 fun i j => .bl (decide (i < j))) ltD := ok_intD (gv := fun i j => .bl (decide (i < j))) (fun _ _ _ _ => .bl _) fun i j H Q _ q => ⟨i, j, rfl, rfl, q⟩
theorem ok_leD : Ok2 X.K cl (rI0 fun i j => .bl (decide (i ≤ j))) leD := ok_intD (gv := fun i j => .bl (decide (i ≤ j))) (fun _ _ _ _ => .bl _) fun i j H Q _ q => ⟨i, j, rfl, rfl, q⟩
theorem ok_gtD : Ok2 X.K cl (rI0 fun i j => .bl (decide (j < i))) gtD := ok_intD (gv := fun i j => .bl (decide (j < i))) (fun _ _ _ _ => .bl _) fun i j H Q _ q => ⟨i, j, rfl, rfl, q⟩
theorem ok_geD : Ok2 X.K cl (rI0 fun i j => .bl (decide (j ≤ i))) geD := ok_intD (gv := fun i j => .bl (decide (j ≤ i))) (fun _ _ _ _ => .bl _) fun i j H Q _ q => ⟨i, j, rfl, rfl, q⟩
theorem int_opt {C : Int → Int → Prop} [∀ i j, Decidable (C i j)] {p : Int → Int → Bool} (d e : D) (S : Sto) : ∃ o : Option Bool, intD C (fun i j => .bl (p i j)) d e S = (opt o S).bind fun b S => .ok (.bl b) S := by
  cases d with
  | int i =>
    cases e with
    | int j =>
      rw [intD_int]
      by_cases hc : C i j
      · exact ⟨some (p i j), by rw [if_pos hc]; rfl⟩
      · exact ⟨none, by rw [if_neg hc]; rfl⟩
    | _ => exact ⟨none, rfl⟩
  | _ => exact ⟨none, rfl⟩
theorem okb_le : Ok2b X.K cl (rI0 fun i j => .bl (decide (i ≤ j))) leD := ⟨ok_leD, fun d e S => int_opt d e S⟩
theorem qt_lt (ha : QE cl W X a f) (hb : QE cl W X b g) : QT cl W X (.Compare a [.Lt] [b] pos) (eTB (e2 ltD f g)) := qt_cmp op_lt ok_ltD ha hb (nomark _)
theorem qt_gt (ha : QE cl W X a f) (hb : QE cl W X b g) : QT cl W X (.Compare a [.Gt] [b] pos) (eTB (e2 gtD f g)) := qt_cmp op_gt ok_gtD ha hb (nomark _)
theorem qt_ge (ha : QE cl W X a f) (hb : QE cl W X b g) : QT cl W X (.Compare a [.GtE] [b] pos) (eTB (e2 geD f g)) := qt_cmp op_ge ok_geD ha hb (nomark _)
theorem qt_lele (ha : QE cl W X a f) (hb : QE cl W X b g) (hc : QE cl W X c h) (hm : lastMarks [.LtE, .LtE] [b, c] = false := by with_unfolding_all rfl) : QT cl W X (.Compare a [.LtE, .LtE] [b, c] pos) (eTB (eCh leD leD f g h)) := qt_chain op_le okb_le op_le ok_leD ha hb hc hm
end
mutual
noncomputable def D.py : D → PyData
  | .non => .none
  | .bl b => .bool b
  | .int i => .int i
  | .str x => .str x
  | .tup xs => .tuple (pys xs)
  | .tpi xs => .tuple (pys xs)
  | .lst xs => .list (pys xs)
  | .fls xs => .list (pys xs)
  | .dct _ => .dict []
  | .ref _ => .dict []
noncomputable def pys : List D → List PyData
  | [] => []
  | x :: xs => x.py :: pys xs
end
theorem pys_eq : ∀ xs : List D, pys xs = xs.map D.py
  | [] => rfl
  | x :: xs => by
    show x.py :: pys xs = x.py :: xs.map D.py
    rw [pys_eq xs]
/-- data at the top: a list of the store is read -/
noncomputable def pyOf (S : Sto) (d : D) : PyData := match d with
  | .ref k => match S[k]? with
    | some (.lst xs) => .list (pys xs)
    | _ => .dict []
  | d => d.py
section
variable {K : PySem.W.Frag} {cl : Str → Addr} {am : AM} {H : Hp} {S : Sto}
mutual
theorem VR.dp : ∀ {d : D} {v : V}, VR K am H d v → d.py.canLay0 = true → Dp K H v d.py
  | _, _, .non, _ => .non
  | _, _, .bl b, _ => .bl b
  | _, _, .int i, _ => .int i
  | _, _, .str x, _ => .str x
  | _, _, .tup h hs, q => .tup h.seq (VRs.dp hs (by simpa [D.py, PyData.canLay0] using q))
  | _, _, .tpi h hs, q => .tup (.inl h.1) (VRs.dp hs (by simpa [D.py, PyData.canLay0] using q))
  | _, _, .lst h n hs, q => .lst (.inl (.inl h)) (VRs.dp hs (by simpa [D.py, PyData.canLay0] using q))
  | _, _, .fls h hs, q => .lst h.seq (VRs.dp hs (by simpa [D.py, PyData.canLay0] using q))
  | _, _, .dct _ _ _, q => absurd q (by simp [D.py, PyData.canLay0])
  | _, _, .ref _, q => absurd q (by simp [D.py, PyData.canLay0])
theorem VRs.dp : ∀ {ds : List D} {vs : List V}, VRs K am H ds vs → PyData.canLayAll0 (pys ds) = true → DpAll K H vs (pys ds)
  | _, _, .nil, _ => .nil
  | _, _, .cons h t, q => by
    rename_i d v ds vs
    have q' : d.py.canLay0 = true ∧ PyData.canLayAll0 (pys ds) = true := by simpa [pys, PyData.canLayAll0] using q
    exact .cons (VR.dp h q'.1) (VRs.dp t q'.2)
end
theorem dpOf (r : RelS K cl am S H) {d : D} {v : V} (h : VR K am H d v) (q : (pyOf S d).canLay0 = true) : Dp K H v (pyOf S d) := by
  cases d with
  | ref k =>
    unfold pyOf at q ⊢
    simp only at q ⊢
    cases e : S[k]? with
    | none => rw [e] at q; exact absurd q (by simp [PyData.canLay0])
    | some o =>
      rw [e] at q
      cases o with
      | lst xs =>
        cases h with
        | ref h1 =>
          obtain ⟨vs, h2, h3⟩ := r.ob k _ _ e h1
          exact .lst (.inl (.inl h2)) (h3.dp (by simpa [PyData.canLay0] using q))
      | dct _ => exact absurd q (by simp [PyData.canLay0])
      | ins _ _ => exact absurd q (by simp [PyData.canLay0])
  | _ => exact h.dp q
end
noncomputable def eqB (S : Sto) (d e : D) : Bool := PyData.eqv (pyOf S d) (pyOf S e)
noncomputable def shp (S : Sto) (d : D) : Bool := SeqAt.shaped (pyOf S d)
noncomputable def eqD (neg : Bool) (d e : D) (S : Sto) : Res D := if shp S d = true ∧ shp S e = true then .ok (.bl (if neg = true then !eqB S d e else eqB S d e)) S else .bad
section
variable {cl : Str → Addr} {W : WX} {X : Cx} {a b c : Expr} {f g h : Ev D} {pos : Pos}
theorem ok_eq : Ok2 X.K cl (rEqD X.K) (eqD false) := fun W σ am S H d e v u Q rs h1 h2 p => by
  unfold eqD at p
  by_cases hc : shp S d = true ∧ shp S e = true
  · rw [if_pos hc] at p
    exact ⟨_, _, dpOf rs h1 (SeqAt.canLay_of_shaped hc.1), dpOf rs h2 (SeqAt.canLay_of_shaped hc.2), hc.1, hc.2, p am _ H .refl rs (.bl _)⟩
  · rw [if_neg hc] at p
    exact p.elim
theorem ok_ne : Ok2 X.K cl (rNeD X.K) (eqD true) := fun W σ am S H d e v u Q rs h1 h2 p => by
  unfold eqD at p
  by_cases hc : shp S d = true ∧ shp S e = true
  · rw [if_pos hc] at p
    exact ⟨_, _, dpOf rs h1 (SeqAt.canLay_of_shaped hc.1), dpOf rs h2 (SeqAt.canLay_of_shaped hc.2), hc.1, hc.2, p am _ H .refl rs (.bl _)⟩
  · rw [if_neg hc] at p
    exact p.elim
theorem qe_eq {k : Nat} (hr : Room k X.A) (ha : QE cl W X a f) (hb : QE cl W X b g) : QE cl W X (.Compare a [.Eq] [b] pos) (e2 (eqD false) f g) := qe_cmp (op_eqD hr.units) ok_eq ha hb (nomark _)
theorem qt_eq {k : Nat} (hr : Room k X.A) (ha : QE cl W X a f) (hb : QE cl W X b g) : QT cl W X (.Compare a [.Eq] [b] pos) (eTB (e2 (eqD false) f g)) := qt_cmp (op_eqD hr.units) ok_eq ha hb (nomark _)
theorem qt_ne {k : Nat} (hr : Room k X.A) (ha : QE cl W X a f) (hb : QE cl W X b g) : QT cl W X (.Compare a [.NotEq] [b] pos) (eTB (e2 (eqD true) f g)) := qt_cmp (op_neD hr.units) ok_ne ha hb (nomark _)
/-- is None -/
noncomputable def D.isN : D → Bool
  | .non => true
  | _ => false
noncomputable def isND (neg : Bool) (d : D) (S : Sto) : Res D := .ok (.bl (if neg = true then !d.isN else d.isN)) S
theorem isN_eq {K : PySem.W.Frag} {am : AM} {H : Hp} {d : D} {v : V} (h : VR K am H d v) : decide (v = .non) = d.isN := by
  cases h <;> rfl
theorem imp_isN : ∀ σ H Q, TD X.K cl W (VR X.K) (e1 (isND false) f) σ H Q → tIsN (TD X.K cl W (VR X.K) f) σ H Q := fun σ H Q ⟨am, e, S, rs, re, p⟩ =>
  ⟨am, e, S, rs, re, (Post.step p).imp fun x H1 ⟨am1, S1, d1, _, g1, rs1, rv1, p1⟩ => by
    rw [isN_eq rv1]
    exact p1 am1 _ H1 .refl rs1 (.bl _)⟩
theorem imp_notN : ∀ σ H Q, TD X.K cl W (VR X.K) (e1 (isND true) f) σ H Q → tNotN (TD X.K cl W (VR X.K) f) σ H Q := fun σ H Q ⟨am, e, S, rs, re, p⟩ =>
  ⟨am, e, S, rs, re, (Post.step p).imp fun x H1 ⟨am1, S1, d1, _, g1, rs1, rv1, p1⟩ => by
    rw [isN_eq rv1]
    exact p1 am1 _ H1 .refl rs1 (.bl _)⟩
theorem qt_isN {j pos'} (ha : QE cl W X a f) : QT cl W X (.Compare a [.Is] [.Constant .none j pos'] pos) (eTB (e1 (isND false) f)) := (pt_cmp (pc_isN ha)).imp fun σ H Q t => imp_isN _ _ _ (imp_TB _ _ _ t)
theorem qt_notN {j pos'} (ha : QE cl W X a f) : QT cl W X (.Compare a [.IsNot] [.Constant .none j pos'] pos) (eTB (e1 (isND true) f)) := (pt_cmp (pc_notN ha)).imp fun σ H Q t => imp_notN _ _ _ (imp_TB _ _ _ t)
end
noncomputable def tAndD (f g : Ev Bool) : Ev Bool := fun e S => (f e S).bind fun b S => if b = true then g e S else .ok false S
noncomputable def tOrD (f g : Ev Bool) : Ev Bool := fun e S => (f e S).bind fun b S => if b = true then .ok true S else g e S
noncomputable def tNotD (f : Ev Bool) : Ev Bool := fun e S => (f e S).bind fun b S => .ok (!b) S
noncomputable def eAndD (f g : Ev D) : Ev D := fun e S => (f e S).bind fun d S => (toB d S).bind fun b S => if b = true then g e S else .ok (.bl false) S
noncomputable def eOrD (f g : Ev D) : Ev D := fun e S => (f e S).bind fun d S => (toB d S).bind fun b S => if b = true then .ok (.bl true) S else g e S
noncomputable def eNotD (f : Ev D) : Ev D := fun e S => (f e S).bind fun d S => (toB d S).bind fun b S => .ok (.bl (!b)) S
noncomputable def eIf (t : Ev Bool) (f g : Ev D) : Ev D := fun e S => (t e S).bind fun b S => if b = true then f e S else g e S
section
variable {cl : Str → Addr} {W : WX} {X : Cx} {a b c : Expr} {rest : List Expr} {f g : Ev D} {s t : Ev Bool} {pos : Pos}
theorem qw_and1 (ha : QT cl W X a s) : QW cl W X (.BoolOp .And [a] pos) s := pw_and1 ha
theorem qw_or1 (ha : QT cl W X a s) : QW cl W X (.BoolOp .Or [a] pos) s := pw_or1 ha
theorem qw_and (ha : QT cl W X a s) (hb : QW cl W X (.BoolOp .And (b :: rest) pos) t) : QW cl W X (.BoolOp .And (a :: b :: rest) pos) (tAndD s t) := (pw_and ha hb).imp fun σ H Q ⟨am, e, S, rs, re, p⟩ =>
  ⟨am, e, S, rs, re, (Post.step p).imp fun k H1 ⟨am1, S1, k', _, g1, rs1, rk, p1⟩ => by
    have rk : k' = k := rk
    subst rk
    cases k' with
    | true => exact ⟨am1, e, S1, rs1, re.mono g1, p1⟩
    | false => exact p1 am1 _ H1 .refl rs1 rfl⟩
theorem qw_or (ha : QT cl W X a s) (hb : QW cl W X (.BoolOp .Or (b :: rest) pos) t) : QW cl W X (.BoolOp .Or (a :: b :: rest) pos) (tOrD s t) := (pw_or ha hb).imp fun σ H Q ⟨am, e, S, rs, re, p⟩ =>
  ⟨am, e, S, rs, re, (Post.step p).imp fun k H1 ⟨am1, S1, k', _, g1, rs1, rk, p1⟩ => by
    have rk : k' = k := rk
    subst rk
    cases k' with
    | false => exact ⟨am1, e, S1, rs1, re.mono g1, p1⟩
    | true => exact p1 am1 _ H1 .refl rs1 rfl⟩
theorem qt_not (ha : QT cl W X a s) : QT cl W X (.UnaryOp .Not a pos) (tNotD s) := (pt_not ha).imp fun σ H Q ⟨am, e, S, rs, re, p⟩ =>
  ⟨am, e, S, rs, re, (Post.step p).imp fun k H1 ⟨am1, S1, k', _, g1, rs1, rk, p1⟩ => by
    have rk : k' = k := rk
    subst rk
    exact p1 am1 _ H1 .refl rs1 rfl⟩
theorem qe_if (hc : QT cl W X c s) (ha : QE cl W X a f) (hb : QE cl W X b g) : QE cl W X (.IfExp c a b pos) (eIf s f g) := (pe_ifExp hc ha hb).imp fun σ H Q ⟨am, e, S, rs, re, p⟩ =>
  ⟨am, e, S, rs, re, (Post.step p).imp fun k H1 ⟨am1, S1, k', _, g1, rs1, rk, p1⟩ => by
    have rk : k' = k := rk
    subst rk
    cases k' with
    | true => exact ⟨am1, e, S1, rs1, re.mono g1, p1⟩
    | false => exact ⟨am1, e, S1, rs1, re.mono g1, p1⟩⟩
/-- a value's truth -/
noncomputable def truD (d : D) (S : Sto) : Res Bool := match d with
  | .non => .ok false S
  | .bl b => .ok b S
  | .int i => .ok (i != 0) S
  | .str x => if x.length ≤ sizeLine then .ok ((x.length : Int) != 0) S else .bad
  | .tup xs => .ok (!xs.isEmpty) S
  | d => match lsOf S d with
    | some xs => .ok (!xs.isEmpty) S
    | none => .bad
noncomputable def eTr (f : Ev D) : Ev Bool := fun e S => (f e S).bind truD
theorem VRs.isEmpty {K : PySem.W.Frag} {am : AM} {H : Hp} {ds : List D} {vs : List V} (h : VRs K am H ds vs) : vs.isEmpty = ds.isEmpty := by
  cases h <;> rfl
theorem tru_ok' {am : AM} {S : Sto} {H : Hp} {d : D} {x : V} {σ : L2.St} {Q : Bool → Hp → Prop} (rs : RelS X.K cl am S H) (rv : VR X.K am H d x) (p : Post X.K cl W σ RB am H (truD d S) Q) : ∃ k, TruV X.K x H k ∧ Q k H := by
  have ls : Post X.K cl W σ RB am H (match lsOf S d with | some xs => .ok (!xs.isEmpty) S | none => .bad) Q → ∃ k, TruV X.K x H k ∧ Q k H := fun p => by
    cases e : lsOf S d with
    | none => rw [e] at p; exact p.elim
    | some xs =>
      rw [e] at p
      obtain ⟨a, vs, ev, r1, hs⟩ := lsOf_ok rs rv e
      subst ev
      exact ⟨!xs.isEmpty, .inl ⟨vs, r1, by rw [hs.isEmpty]⟩, p am _ H .refl rs rfl⟩
  cases rv with
  | non => exact ⟨false, rfl, p am _ H .refl rs rfl⟩
  | bl b => exact ⟨b, rfl, p am _ H .refl rs rfl⟩
  | int i => exact ⟨(i != 0), rfl, p am _ H .refl rs rfl⟩
  | str y =>
    simp only [truD] at p
    by_cases hz : y.length ≤ sizeLine
    · rw [if_pos hz] at p
      exact ⟨((y.length : Int) != 0), ⟨hz, rfl⟩, p am _ H .refl rs rfl⟩
    · rw [if_neg hz] at p
      exact p.elim
  | tup h hs => exact ⟨_, .inr (.inl ⟨_, h.seq, rfl⟩), by rw [hs.isEmpty]; exact p am _ H .refl rs rfl⟩
  | lst _ _ _ => exact ls p
  | fls _ _ => exact ls p
  | ref _ => exact ls p
  | dct _ _ _ => exact p.elim
  | tpi _ _ => exact p.elim
theorem qt_val (ha : QE cl W X a f) (he : ∀ whole, isTrue a X.env whole = (do let v ← whole; standAt a.pos; holding [v] (truthy v)) := by intro _; rfl) : QT cl W X a (eTr f) := (pt_truth ha he).imp fun σ H Q ⟨am, e, S, rs, re, p⟩ =>
  ⟨am, e, S, rs, re, (Post.step p).imp fun x H1 ⟨am1, S1, d, _, g1, rs1, rv, p1⟩ => tru_ok' rs1 rv p1⟩
end
noncomputable def eArgs : List (Ev D) → Ev (List D)
  | [] => fun _ S => .ok [] S
  | f :: fs => fun e S => (f e S).bind fun x S => (eArgs fs e S).bind fun xs S => .ok (x :: xs) S
theorem eArgs_len : ∀ {fs : List (Ev D)} {e : En} {S S' : Sto} {xs : List D}, eArgs fs e S = .ok xs S' → xs.length = fs.length
  | [], _, _, _, _, h => by cases h; rfl
  | f :: fs, e, S, S', xs, h => by
    unfold eArgs at h
    cases e1 : f e S with
    | ok x S1 =>
      rw [e1, Res.bind_ok] at h
      cases e2 : eArgs fs e S1 with
      | ok ys S2 =>
        rw [e2, Res.bind_ok] at h
        cases h
        rw [List.length_cons, List.length_cons, eArgs_len e2]
      | exc c S2 => rw [e2] at h; cases h
      | bad => rw [e2] at h; cases h
    | exc c S1 => rw [e1] at h; cases h
    | bad => rw [e1] at h; cases h
noncomputable def eTup (fs : List (Ev D)) : Ev D := fun e S => (eArgs fs e S).bind fun xs S => .ok (.tup xs) S
noncomputable def eCall (op : List D → Sto → Res D) (fs : List (Ev D)) : Ev D := fun e S => (eArgs fs e S).bind op
noncomputable def OkN (K : PySem.W.Frag) (cl : Str → Addr) (r : List V → Hp → VK → Prop) (op : List D → Sto → Res D) : Prop :=
  ∀ (W : WX) (σ : L2.St) (am : AM) (S : Sto) (H : Hp) (ds : List D) (vs : List V) (Q : VK), RelS K cl am S H → VRs K am H ds vs → Post K cl W σ (VR K) am H (op ds S) Q → r vs H Q
theorem OkN.or {K : PySem.W.Frag} {cl : Str → Addr} {r r' : List V → Hp → VK → Prop} {op op' : List D → Sto → Res D} (h : OkN K cl r op) (h' : OkN K cl r' op') (c : List D → Sto → Bool) : OkN K cl (fun vs H Q => r vs H Q ∨ r' vs H Q) (fun ds S => if c ds S = true then op ds S else op' ds S) :=
  fun W σ am S H ds vs Q rs rv p => by
    by_cases hc : c ds S = true
    · simp only [hc, if_true] at p
      exact .inl (h W σ am S H ds vs Q rs rv p)
    · simp only [hc] at p
      exact .inr (h' W σ am S H ds vs Q rs rv p)
section
variable {cl : Str → Addr} {W : WX} {X : Cx} {a b c : Expr} {es : List Expr} {f g : Ev D} {fs : List (Ev D)} {pos : Pos}
theorem qa_nil : QA cl W X [] (eArgs []) := pa_nil.imp fun σ H Q ⟨am, e, S, rs, re, p⟩ => p am [] H .refl rs .nil
theorem qa_cons (ha : QE cl W X a f) (hr : QA cl W X es (eArgs fs)) (hs : starEach (a :: es) X.env = (false, eval a X.env) :: starEach es X.env := by rfl) : QA cl W X (a :: es) (eArgs (f :: fs)) := (pa_cons ha hr hs).imp fun σ H Q ⟨am, e, S, rs, re, p⟩ =>
  ⟨am, e, S, rs, re, (Post.step p).imp fun x H1 ⟨am1, S1, d, _, g1, rs1, rv, p1⟩ =>
    ⟨am1, e, S1, rs1, re.mono g1, (Post.step p1).imp fun xs H2 ⟨am2, S2, ds, _, g2, rs2, rvs, p2⟩ => p2 am2 _ H2 .refl rs2 (.cons (rv.mono g2) rvs)⟩⟩
theorem qe_tup {x1} (h : QA cl W X es (eArgs fs)) (hn : fs.length ≤ 1000 := by decide) : QE cl W X (.Tuple es x1 pos) (eTup fs) := (pe_tupF h).imp fun σ H Q ⟨am, e, S, rs, re, p⟩ =>
  ⟨am, e, S, rs, re, (Post.step p).imp fun xs H1 ⟨am1, S1, ds, ee, g1, rs1, rvs, p1⟩ =>
    ⟨by rw [← rvs.length, eArgs_len ee]; exact Nat.le_trans hn (by decide), fun q ob hq hd => p1 am1 _ _ (Grow.upd hq) (rs1.upd hq) (VR.tupNew rs1 rvs hq hd)⟩⟩
theorem imp_call {r : List V → Hp → VK → Prop} {op : List D → Sto → Res D} (ok : OkN X.K cl r op) : ∀ σ H Q, TD X.K cl W (VR X.K) (eCall op fs) σ H Q → tCB r (TD X.K cl W (VRs X.K) (eArgs fs)) σ H Q := fun σ H Q ⟨am, e, S, rs, re, p⟩ =>
  ⟨am, e, S, rs, re, (Post.step p).imp fun xs H1 ⟨am1, S1, ds, ee, g1, rs1, rvs, p1⟩ => ok W σ am1 S1 H1 ds xs Q rs1 rvs p1⟩
variable {x : Str} {p : Pos}
theorem qe_callB {id : String} {r : List V → Hp → VK → Prop} {op : List D → Sto → Res D} (hc : CallR X (.builtin id) r) (ok : OkN X.K cl r op) (hg : Gl X x) (hm : X.mg x = none) (hv : bootBuiltins x = some (.builtin id)) (ha : QA cl W X (a :: es) (eArgs fs)) (hn : x ≠ "__name__" := by decide) (hdb : (x == ("__debug__" : Str)) = false := by decide)
    (he : starEach (a :: es) X.env = (false, eval a X.env) :: starEach es X.env := by rfl) (hpl : (backTo pos (starEach es X.env)).any (·.1) = false := by rfl) : QE cl W X (.Call (.Name x p) (a :: es) [] pos) (eCall op fs) :=
  (pe_callB hc hg hm hv ha hn hdb he hpl).imp (imp_call ok)
theorem qe_callT {T : String} {r : List V → Hp → VK → Prop} {op : List D → Sto → Res D} (hc : CallR X (.type T) r) (ok : OkN X.K cl r op) (hg : Gl X x) (hm : X.mg x = none) (hv : bootBuiltins x = some (.type T)) (ha : QA cl W X (a :: es) (eArgs fs)) (hn : x ≠ "__name__" := by decide) (hdb : (x == ("__debug__" : Str)) = false := by decide)
    (he : starEach (a :: es) X.env = (false, eval a X.env) :: starEach es X.env := by rfl) (hpl : (backTo pos (starEach es X.env)).any (·.1) = false := by rfl) : QE cl W X (.Call (.Name x p) (a :: es) [] pos) (eCall op fs) :=
  (pe_callTy hc hg hm hv ha hn hdb he hpl).imp (imp_call ok)
end
/-- the sequence that a value is -/
noncomputable def sqOf (S : Sto) : D → Option (List D)
  | .tup xs => some xs
  | d => lsOf S d
@[simp] theorem sqOf_tup {S : Sto} {xs : List D} : sqOf S (.tup xs) = some xs := id rfl
@[simp] theorem sqOf_lst {S : Sto} {xs : List D} : sqOf S (.lst xs) = some xs := id rfl
@[simp] theorem sqOf_fls {S : Sto} {xs : List D} : sqOf S (.fls xs) = some xs := id rfl
@[simp] theorem sqOf_ref {S : Sto} {k : Nat} {xs : List D} (h : S[k]? = some (.lst xs)) : sqOf S (.ref k) = some xs := lsOf_ref h
theorem sqOf_ok {K : PySem.W.Frag} {cl : Str → Addr} {am : AM} {H : Hp} {S : Sto} {d : D} {v : V} (r : RelS K cl am S H) (h : VR K am H d v) {xs : List D} (e : sqOf S d = some xs) :
    ∃ a vs, v = .ref a ∧ (SqL K H a vs ∨ SqT K H a vs) ∧ VRs K am H xs vs := by
  cases h with
  | tup h hs =>
    cases e
    exact ⟨_, _, rfl, .inr h.seq, hs⟩
  | lst h1 h2 h3 =>
    obtain ⟨a, vs, ev, r1, hs⟩ := lsOf_ok r (.lst h1 h2 h3) e
    exact ⟨a, vs, ev, .inl r1, hs⟩
  | fls h1 h3 =>
    obtain ⟨a, vs, ev, r1, hs⟩ := lsOf_ok r (.fls h1 h3) e
    exact ⟨a, vs, ev, .inl r1, hs⟩
  | ref h1 =>
    obtain ⟨a, vs, ev, r1, hs⟩ := lsOf_ok r (.ref h1) e
    exact ⟨a, vs, ev, .inl r1, hs⟩
  | _ => cases e
end Pu
set_option Elab.async false
set_option linter.all false
set_option maxRecDepth 100000
namespace Pu
open PySem PySem.Spec PyProof.Rows L2
noncomputable def PostN (K : PySem.W.Frag) (cl : Str → Addr) (W : WX) (σ : L2.St) (am : AM) (H : Hp) (r : Res DO) (Q : VK) : Prop := match r with
  | .ok o S => ∀ (am' : AM) (a : Addr) (H' : Hp), Grow am am' H H' → RelS K cl am' S H' → H a = none → a ∈ am'.no → a ∉ am'.ad → OR K cl am' H' a o → Q (.ref a) H'
  | .exc c S => ∀ am' H', Grow am am' H H' → RelS K cl am' S H' → W (.ref (cl c)) none σ H'
  | .bad => False
noncomputable def TDN (K : PySem.W.Frag) (cl : Str → Addr) (W : WX) (f : Ev DO) : TE := fun σ H Q => ∃ am e S, RelS K cl am S H ∧ RelE K am H e σ ∧ PostN K cl W σ am H (f e S) Q
noncomputable abbrev QN (cl : Str → Addr) (W : WX) (X : Cx) (e : Expr) (f : Ev DO) : Prop := PE X e (TDN X.K cl W f)
noncomputable def anoD (o : DO) (S : Sto) : Res D := match o with
  | .lst xs => .ok (.lst xs) S
  | .dct xs => .ok (.dct xs) S
  | .ins _ _ => .bad
@[simp] theorem anoD_lst {xs : List D} {S : Sto} : anoD (.lst xs) S = .ok (.lst xs) S := id rfl
@[simp] theorem anoD_dct {xs : List (Key × D)} {S : Sto} : anoD (.dct xs) S = .ok (.dct xs) S := id rfl
/-- .. kept by its data -/
noncomputable def eAno (f : Ev DO) : Ev D := fun e S => (f e S).bind anoD
/-- .. kept in the store -/
noncomputable def eNew (f : Ev DO) : Ev D := fun e S => (f e S).bind fun o S => .ok (.ref S.length) (S ++ [o])
section
variable {K : PySem.W.Frag} {cl : Str → Addr} {W : WX} {σ : L2.St} {am am1 : AM} {H H1 : Hp} {S : Sto} {Q : VK} {f : Ev DO}
theorem PostN.step {α β : Type} {R : AM → Hp → α → β → Prop} {r : Res α} {k : α → Sto → Res DO} (p : PostN K cl W σ am H (r.bind k) Q) :
    Post K cl W σ R am H r (fun b H1 => ∃ am1 S1 a, r = .ok a S1 ∧ Grow am am1 H H1 ∧ RelS K cl am1 S1 H1 ∧ R am1 H1 a b ∧ PostN K cl W σ am H (k a S1) Q) := by
  cases r with
  | ok a S => exact fun am1 b H1 g rs rb => ⟨am1, S, a, rfl, g, rs, rb, p⟩
  | exc c S => exact p
  | bad => exact p
theorem Grow.unborn (g : Grow am am1 H H1) (rs : RelS K cl am1 S H1) {p : Addr} (h : H1 p = none) : H p = none := by
  cases q : H p with
  | none => rfl
  | some o =>
    by_cases hp : p ∈ am.ad
    · obtain ⟨r, e⟩ := g.pre
      have : p ∈ am1.ad := by rw [e]; exact List.mem_append_left _ hp
      exact absurd h (by obtain ⟨u, e2⟩ := rs.there p (am1.sub p this); rw [e2]; simp)
    · rw [g.keep p o q hp] at h
      cases h
/-- the object is laid at last -/
theorem PostN.laid {o : DO} {ov : HO} {q : Addr} (p : PostN K cl W σ am H (.ok o S) Q) (g : Grow am am1 H H1) (rs : RelS K cl am1 S H1) (hq : H1 q = none) (ho : OR K cl (am1.resv q) (upd H1 q ov) q o) : Q (.ref q) (upd H1 q ov) :=
  p (am1.resv q) q _ (g.trans (Grow.resv hq)) (rs.resv hq) (g.unborn rs hq) List.mem_cons_self (fun z => (rs.new hq) (am1.sub q z)) ho
theorem imp_ano : ∀ σ H Q, TD K cl W (VR K) (eAno f) σ H Q → TDN K cl W f σ H Q := fun σ H Q ⟨am, e, S, rs, re, p⟩ => by
  refine ⟨am, e, S, rs, re, ?_⟩
  unfold eAno at p
  cases q : f e S with
  | ok o S1 =>
    rw [q] at p
    intro am' a H' g rs' ha hn hd ho
    cases o with
    | lst xs =>
      obtain ⟨vs, h1, h2⟩ := ho
      exact p (am'.free a hd) (.ref a) H' (g.free hd (rs.new ha)) (rs'.free hd) (.lst h1 (AM.free_not hd) (h2.ext (Ext.free hd)))
    | dct xs =>
      obtain ⟨vs, h1, h2⟩ := ho
      exact p (am'.free a hd) (.ref a) H' (g.free hd (rs.new ha)) (rs'.free hd) (.dct h1 (AM.free_not hd) (h2.ext (Ext.free hd)))
    | ins c fs => exact p.elim
  | exc c S1 => rw [q] at p; exact p
  | bad => rw [q] at p; exact p.elim
theorem imp_new : ∀ σ H Q, TD K cl W (VR K) (eNew f) σ H Q → TDN K cl W f σ H Q := fun σ H Q ⟨am, e, S, rs, re, p⟩ => by
  refine ⟨am, e, S, rs, re, ?_⟩
  unfold eNew at p
  cases q : f e S with
  | ok o S1 =>
    rw [q] at p
    intro am' a H' g rs' ha hn hd ho
    refine p (am'.push a hn) (.ref a) H' (g.push hn ha) (rs'.push hn hd ho) (.ref ?_)
    show (am'.ad ++ [a])[S1.length]? = some a
    rw [← rs'.len, List.getElem?_append_right (Nat.le_refl _), Nat.sub_self]
    rfl
  | exc c S1 => rw [q] at p; exact p
  | bad => rw [q] at p; exact p.elim
end
section
variable {cl : Str → Addr} {W : WX} {X : Cx} {a b c : Expr} {es : List Expr} {f g h : Ev D} {fs : List (Ev D)} {fn : Ev DO} {pos : Pos}
theorem qe_ano (h : QN cl W X a fn) : QE cl W X a (eAno fn) := h.imp imp_ano
theorem qe_new (h : QN cl W X a fn) : QE cl W X a (eNew fn) := h.imp imp_new
noncomputable def nLst (fs : List (Ev D)) : Ev DO := fun e S => (eArgs fs e S).bind fun xs S => .ok (.lst xs) S
theorem qn_lst (h : QA cl W X es (eArgs fs)) (hn : fs.length ≤ 1000 := by decide) : QN cl W X (.List es pos) (nLst fs) := (pe_lst h).imp fun σ H Q ⟨am, e, S, rs, re, p⟩ =>
  ⟨am, e, S, rs, re, (PostN.step p).imp fun xs H1 ⟨am1, S1, ds, ee, g1, rs1, rvs, p1⟩ =>
    ⟨by rw [← rvs.length, eArgs_len ee]; exact Nat.le_trans hn (by decide), fun q hq => p1.laid g1 rs1 hq ⟨xs, upd_same, rvs.mono (Grow.resv hq)⟩⟩⟩
noncomputable def nDct0 : Ev DO := fun _ S => .ok (.dct []) S
end
noncomputable def sSet (i : Nat) (f : Ev D) : Stm := fun e S => (f e S).stm e fun d S => .next (e.set i (some d)) S
noncomputable def sRet (f : Ev D) : Stm := fun e S => (f e S).stm e fun d S => .ret d S
noncomputable def sExpr (f : Ev D) : Stm := fun e S => (f e S).stm e fun _ S => .next e S
noncomputable def sNext : Stm := fun e S => .next e S
noncomputable def sBrk : Stm := fun e S => .brk e S
noncomputable def sSeq (a b : Stm) : Stm := fun e S => (a e S).seq b
noncomputable def sIf (t : Ev Bool) (a b : Stm) : Stm := fun e S => (t e S).stm e fun k S => if k = true then a e S else b e S
/-- slots that nobody reads any more -/
noncomputable def sFgt (vs : List Nat) (a : Stm) : Stm := fun e S => match a e S with
  | .next e S => .next (wipeE e vs) S
  | r => r
section
variable {cl : Str → Addr} {W : WX} {X : Cx} {st : Stmt} {rest sa sb : List Stmt} {a b c : Expr} {f g : Ev D} {t : Ev Bool} {u v : Stm} {pos : Pos}
theorem PostS.imp {K : PySem.W.Frag} {am : AM} {H : Hp} {r : SRes} {E E' : Ends} (p : PostS K cl W am H r E) (h1 : ∀ σ H', E.nx σ H' → E'.nx σ H') (h2 : ∀ v H', E.rt v H' → E'.rt v H') (h3 : ∀ σ H', E.bk σ H' → E'.bk σ H') (h4 : ∀ σ H', E.ct σ H' → E'.ct σ H') : PostS K cl W am H r E' := by
  cases r with
  | next e S => exact fun am' σ H' g rs re => h1 _ _ (p am' σ H' g rs re)
  | brk e S => exact fun am' σ H' g rs re => h3 _ _ (p am' σ H' g rs re)
  | cnt e S => exact fun am' σ H' g rs re => h4 _ _ (p am' σ H' g rs re)
  | ret d S => exact fun am' v H' g rs rv => h2 _ _ (p am' v H' g rs rv)
  | exc c e S => exact p
  | bad => exact p
theorem qs_set {i : Nat} {x : Str} {pos' : Pos} (hN : X.N.Nodup) (hi : X.N[i]? = some x) (hx : Loc X.env.scope x) (he : QE cl W X a f) (hs : swapsWith a (some (.Name x pos')) pos.line X.env = pure false := by rfl) (hf : X.fn x = true ∨ X.env.scope.names.lookup x = some .local := by first | exact .inl rfl | exact .inr rfl | assumption) :
    QS cl W X (.Assign [.Name x pos'] a pos) (sSet i f) := (ps_set hN hi hx he hs hf).imp fun E σ H ⟨am, e, S, rs, re, p⟩ =>
  ⟨am, e, S, rs, re, (PostS.step re p).imp fun x H1 ⟨am1, S1, d, _, g1, rs1, rv, p1⟩ => p1 am1 _ H1 .refl rs1 ((re.mono g1).set i rv)⟩
theorem qs_ret (he : QE cl W X a f) : QS cl W X (.Return (some a) pos) (sRet f) := (ps_ret he).imp fun E σ H ⟨am, e, S, rs, re, p⟩ =>
  ⟨am, e, S, rs, re, (PostS.step re p).imp fun x H1 ⟨am1, S1, d, _, g1, rs1, rv, p1⟩ => p1 am1 _ H1 .refl rs1 rv⟩
theorem qs_expr (he : QE cl W X a f) (hs : swapsWith a none pos.line X.env = pure false := by rfl) : QS cl W X (.Expr a pos) (sExpr f) := (ps_expr he hs).imp fun E σ H ⟨am, e, S, rs, re, p⟩ =>
  ⟨am, e, S, rs, re, (PostS.step re p).imp fun x H1 ⟨am1, S1, d, _, g1, rs1, rv, p1⟩ => p1 am1 _ H1 .refl rs1 (re.mono g1)⟩
theorem qb_nil : QB cl W X [] sNext := pss_nil.imp fun E σ H ⟨am, e, S, rs, re, p⟩ => p am σ H .refl rs re
theorem qb_one (h : QS cl W X st u) : QB cl W X [st] u := pss_one h
theorem qb_cons (h1 : QS cl W X st u) (h2 : QB cl W X rest v) : QB cl W X (st :: rest) (sSeq u v) := (pss_cons h1 h2).imp fun E σ H ⟨am, e, S, rs, re, p⟩ => by
  refine ⟨am, e, S, rs, re, ?_⟩
  have p : PostS X.K cl W am H ((u e S).seq v) E := p
  cases q : u e S with
  | next e1 S1 =>
    rw [q] at p
    exact fun am1 σ1 H1 g1 rs1 re1 => ⟨am1, e1, S1, rs1, re1, PostS.grow g1 p⟩
  | brk e1 S1 => rw [q] at p; exact p
  | cnt e1 S1 => rw [q] at p; exact p
  | ret d S1 => rw [q] at p; exact p
  | exc c e1 S1 => rw [q] at p; exact p
  | bad => rw [q] at p; exact p
theorem qs_if (hc : QT cl W X c t) (ha : QB cl W X sa u) (hb : QB cl W X sb v) : QS cl W X (.If c sa sb pos) (sIf t u v) := (ps_if hc ha hb).imp fun E σ H ⟨am, e, S, rs, re, p⟩ =>
  ⟨am, e, S, rs, re, (PostS.step re p).imp fun k H1 ⟨am1, S1, k', _, g1, rs1, rk, p1⟩ => by
    have rk : k' = k := rk
    subst rk
    cases k' with
    | true => exact ⟨am1, e, S1, rs1, re.mono g1, p1⟩
    | false => exact ⟨am1, e, S1, rs1, re.mono g1, p1⟩⟩
theorem PostS.fgt {K : PySem.W.Frag} {am : AM} {H : Hp} {E : Ends} {vs : List Nat} {e : En} {S : Sto} (p : PostS K cl W am H (sFgt vs u e S) E) : PostS K cl W am H (u e S) E := by
  unfold sFgt at p
  cases q : u e S with
  | next e1 S1 => rw [q] at p; exact fun am' σ H' g rs re => p am' σ H' g rs (re.forget vs)
  | brk e1 S1 => rw [q] at p; exact p
  | cnt e1 S1 => rw [q] at p; exact p
  | ret d S1 => rw [q] at p; exact p
  | exc c e1 S1 => rw [q] at p; exact p
  | bad => rw [q] at p; exact p
theorem qs_fgt (vs : List Nat) (h : QS cl W X st u) : QS cl W X st (sFgt vs u) := h.imp fun E σ H ⟨am, e, S, rs, re, p⟩ => ⟨am, e, S, rs, re, PostS.fgt p⟩
end
inductive Tg where
  | nm (i : Nat) | tp (ts : List Tg)
mutual
noncomputable def bindT : Tg → D → En → Option En
  | .nm i, d, e => some (e.set i (some d))
  | .tp ts, .tup ds, e => bindTs ts ds e
  | .tp ts, .tpi ds, e => bindTs ts ds e
  | .tp _, _, _ => none
noncomputable def bindTs : List Tg → List D → En → Option En
  | [], [], e => some e
  | t :: ts, d :: ds, e => (bindT t d e).bind fun e => bindTs ts ds e
  | _, _, _ => none
end
mutual
noncomputable def Tg.sl : Tg → List Nat
  | .nm i => [i]
  | .tp ts => slTs ts
noncomputable def slTs : List Tg → List Nat
  | [] => []
  | t :: ts => t.sl ++ slTs ts
end
/-- only the slots at vs are others -/
structure But (vs : List Nat) (σ σ' : L2.St) : Prop where
  len : σ'.length = σ.length
  get : ∀ j, j ∉ vs → σ'[j]? = σ[j]?
theorem But.refl {vs : List Nat} {σ : L2.St} : But vs σ σ := ⟨rfl, fun _ _ => rfl⟩
theorem But.trans {vs us : List Nat} {σ σ1 σ2 : L2.St} (a : But vs σ σ1) (b : But us σ1 σ2) : But (vs ++ us) σ σ2 := ⟨b.len.trans a.len, fun j h => (b.get j fun z => h (List.mem_append_right _ z)).trans (a.get j fun z => h (List.mem_append_left _ z))⟩
theorem wipe_get {σ : L2.St} : ∀ {vs : List Nat} {j : Nat}, (L2.wipe σ vs)[j]? = if j ∈ vs then (if j < σ.length then some none else none) else σ[j]?
  | [], j => by simp [L2.wipe]
  | v :: vs, j => by
    show ((L2.wipe σ vs).set v none)[j]? = _
    rw [List.getElem?_set]
    by_cases hj : v = j
    · subst hj
      simp [wipe_length]
    · rw [if_neg hj, wipe_get (vs := vs)]
      have : (j ∈ v :: vs) ↔ j ∈ vs := by simp [Ne.symm hj]
      simp only [this]
theorem But.wipe {us vs : List Nat} {σ σ' : L2.St} (b : But us σ σ') (h : ∀ j, j ∈ us → j ∈ vs) : L2.wipe σ' vs = L2.wipe σ vs := by
  apply List.ext_getElem?
  intro j
  rw [wipe_get, wipe_get, b.len]
  by_cases hj : j ∈ vs
  · rw [if_pos hj, if_pos hj]
  · rw [if_neg hj, if_neg hj]
    exact b.get j fun z => hj (h j z)
noncomputable def TDg (K : PySem.W.Frag) (cl : Str → Addr) (tg : Tg) : TG := fun v σ H Q => ∃ am e S d e', RelS K cl am S H ∧ RelE K am H e σ ∧ VR K am H d v ∧ bindT tg d e = some e' ∧ ∀ σ', RelE K am H e' σ' → But tg.sl σ σ' → Q σ' H
noncomputable def TDgs (K : PySem.W.Frag) (cl : Str → Addr) (tg : List Tg) : TGs := fun vs σ H Q => ∃ am e S ds e', RelS K cl am S H ∧ RelE K am H e σ ∧ VRs K am H ds vs ∧ bindTs tg ds e = some e' ∧ ∀ σ', RelE K am H e' σ' → But (slTs tg) σ σ' → Q σ' H
noncomputable abbrev QG (cl : Str → Addr) (X : Cx) (target : Expr) (tg : Tg) : Prop := PG X target (TDg X.K cl tg)
noncomputable abbrev QGs (cl : Str → Addr) (X : Cx) (ts : List Expr) (tg : List Tg) : Prop := PGs X ts (TDgs X.K cl tg)
theorem _root_.L2.PG.imp {X : Cx} {e : Expr} {t t' : TG} (h : PG X e t) (i : ∀ v σ H Q, t' v σ H Q → t v σ H Q) : PG X e t' := ⟨fun pins s σ H v u Q I r q => h.run pins s σ H v u Q I r (i v σ H Q q)⟩
theorem _root_.L2.PGs.imp {X : Cx} {e : List Expr} {t t' : TGs} (h : PGs X e t) (i : ∀ v σ H Q, t' v σ H Q → t v σ H Q) : PGs X e t' := ⟨fun pins s σ H v u Q I r q => h.run pins s σ H v u Q I r (i v σ H Q q)⟩
section
variable {cl : Str → Addr} {X : Cx} {pos : Pos}
theorem But.set {i : Nat} {σ : L2.St} {v : Option V} : But [i] σ (σ.set i v) := ⟨List.length_set, fun j h => by rw [List.getElem?_set_ne]; simpa [eq_comm] using h⟩
theorem qg_nm {i : Nat} {x : Str} (hN : X.N.Nodup) (hi : X.N[i]? = some x) (hx : Loc X.env.scope x) (hf : X.fn x = true ∨ X.env.scope.names.lookup x = some .local := by first | exact .inl rfl | exact .inr rfl | assumption) : QG cl X (.Name x pos) (.nm i) :=
  (pg_name hN hi hx hf).imp fun v σ H Q ⟨am, e, S, d, e', rs, re, rv, eb, q⟩ => by
    cases eb
    exact q _ (re.set i rv) But.set
theorem qgs_nil : QGs cl X [] [] := pgs_nil.imp fun v σ H Q ⟨am, e, S, d, e', rs, re, rv, eb, q⟩ => by
  cases rv with
  | nil =>
    cases eb
    exact ⟨rfl, q σ re .refl⟩
  | cons _ _ => cases eb
theorem qgs_cons {e : Expr} {es : List Expr} {t : Tg} {ts : List Tg} (h1 : QG cl X e t) (h2 : QGs cl X es ts) (hs : (assignEach (e :: es) X.env).map (·.2) = assign e X.env :: (assignEach es X.env).map (·.2) := by rfl) : QGs cl X (e :: es) (t :: ts) :=
  (pgs_cons h1 h2 hs).imp fun v σ H Q ⟨am, e, S, ds, e', rs, re, rv, eb, q⟩ => by
    cases rv with
    | nil => cases eb
    | @cons d v1 ds1 vs1 r1 r2 =>
      have eb : ((bindT t d e).bind fun e => bindTs ts ds1 e) = some e' := eb
      cases q1 : bindT t d e with
      | none => rw [q1] at eb; cases eb
      | some e1 =>
        rw [q1] at eb
        exact ⟨_, _, rfl, am, e, S, d, e1, rs, re, r1, q1, fun σ1 re1 b1 => ⟨am, e1, S, ds1, e', rs, re1, r2, eb, fun σ2 re2 b2 => q σ2 re2 (b1.trans b2)⟩⟩
theorem qg_tp {es : List Expr} {k : Nat} {ts : List Tg} {n : Nat} (hc : X.calm = true) (h : QGs cl X es ts) (hl : ts.length = n) (hn : (assignEach es X.env).length = n := by rfl) (hst : (assignEach es X.env).findIdx? (·.1) = none := by rfl) : QG cl X (.Tuple es k pos) (.tp ts) :=
  (pg_tup hc h hn hst).imp fun v σ H Q ⟨am, e, S, d, e', rs, re, rv, eb, q⟩ => by
    have len : ∀ (ts : List Tg) (ds : List D) (e e' : En), bindTs ts ds e = some e' → ds.length = ts.length := by
      intro ts
      induction ts with
      | nil => intro ds e e' h; cases ds with | nil => rfl | cons _ _ => cases h
      | cons t ts ih =>
        intro ds e e' h
        cases ds with
        | nil => cases h
        | cons d ds =>
          have h : ((bindT t d e).bind fun e => bindTs ts ds e) = some e' := h
          cases q1 : bindT t d e with
          | none => rw [q1] at h; cases h
          | some e1 => rw [q1] at h; rw [List.length_cons, List.length_cons, ih ds e1 e' h]
    cases rv with
    | @tup a vs ds ht hs => exact ⟨a, vs, rfl, ht.seq, by rw [← hs.length, len ts ds e e' eb, hl], am, e, S, ds, e', rs, re, hs, eb, q⟩
    | @tpi a vs ds ht hs => exact ⟨a, vs, rfl, .inl ht.1, by rw [← hs.length, len ts ds e e' eb, hl], am, e, S, ds, e', rs, re, hs, eb, q⟩
    | _ => cases eb
end
/-- target = value, any target of names -/
noncomputable def sAsg (tg : Tg) (f : Ev D) : Stm := fun e S => (f e S).stm e fun d S => match bindT tg d e with
  | some e' => .next e' S
  | none => .bad
section
variable {cl : Str → Addr} {W : WX} {X : Cx} {a tgE : Expr} {f : Ev D} {tg : Tg} {pos : Pos}
theorem qs_asg (he : QE cl W X a f) (hg : QG cl X tgE tg) (hs : swapsWithSole [tgE] a pos.line X.env = pure false := by rfl) (hw : swappedStores [tgE] a X.env = pure none := by rfl)
    (h1 : (assignEach [tgE] X.env).map (·.2) = [assign tgE X.env] := by rfl) : QS cl W X (.Assign [tgE] a pos) (sAsg tg f) := (ps_asg he hg hs hw h1).imp fun E σ H ⟨am, e, S, rs, re, p⟩ =>
  ⟨am, e, S, rs, re, (PostS.step re p).imp fun x H1 ⟨am1, S1, d, _, g1, rs1, rv, p1⟩ => by
    cases q : bindT tg d e with
    | none => simp only [q] at p1; exact p1.elim
    | some e' =>
      simp only [q] at p1
      exact ⟨am1, e, S1, d, e', rs1, re.mono g1, rv, q, fun σ' re' _ => p1 am1 σ' H1 .refl rs1 re'⟩⟩
end
inductive Src where
  | tmp (xs : List D) | st (k : Nat) (xs : List D)
noncomputable def Src.items : Src → List D
  | .tmp xs => xs
  | .st _ xs => xs
noncomputable def Src.ok : Src → Sto → Prop
  | .tmp _, _ => True
  | .st k xs, S => S[k]? = some (.lst xs)
noncomputable instance (src : Src) (S : Sto) : Decidable (src.ok S) := Classical.propDecidable _
@[simp] theorem Src.items_tmp {xs : List D} : (Src.tmp xs).items = xs := id rfl
@[simp] theorem Src.items_st {k : Nat} {xs : List D} : (Src.st k xs).items = xs := id rfl
@[simp] theorem Src.ok_tmp {xs : List D} {S : Sto} : (Src.tmp xs).ok S = True := id rfl
@[simp] theorem Src.ok_st {xs : List D} {k : Nat} {S : Sto} : (Src.st k xs).ok S = (S[k]? = some (.lst xs)) := id rfl
/-- an iterator gives the items -/
noncomputable def SrcJ (K : PySem.W.Frag) (cl : Str → Addr) (src : Src) (am : AM) (H : Hp) (J : It) : Prop :=
  ∀ (am' : AM) (H' : Hp) (S' : Sto), Grow am am' H H' → RelS K cl am' S' H' → src.ok S' →
    (∀ (i : Nat) (d : D), src.items[i]? = some d → J.go i H' ∧ ∀ (x : V) (H2 : Hp), J.yld i H' x H2 → ∃ am2, Grow am' am2 H' H2 ∧ RelS K cl am2 S' H2 ∧ VR K am2 H2 d x) ∧
    (∀ i : Nat, src.items.length ≤ i → J.stop i H')
noncomputable def TDi (K : PySem.W.Frag) (cl : Str → Addr) (W : WX) (f : Ev Src) : TI := fun σ H R => ∃ am e S, RelS K cl am S H ∧ RelE K am H e σ ∧ Post K cl W σ (SrcJ K cl |> fun P => fun am H (s : Src) (J : It) => P s am H J) am H (f e S) R
noncomputable abbrev QI (cl : Str → Addr) (W : WX) (X : Cx) (tg iter : Expr) (f : Ev Src) : Prop := PI X tg iter (TDi X.K cl W f)
theorem _root_.L2.PI.imp {X : Cx} {tg e : Expr} {t t' : TI} (h : PI X tg e t) (i : ∀ σ H R, t' σ H R → t σ H R) : PI X tg e t' := ⟨fun pins s σ H R I q => h.run pins s σ H R I (i σ H R q)⟩
/-- a value as a source: a list or a tuple -/
noncomputable def srcL (d : D) (S : Sto) : Res Src := match d with
  | .lst xs => .ok (.tmp xs) S
  | .fls xs => .ok (.tmp xs) S
  | .ref k => match S[k]? with
    | some (.lst xs) => .ok (.st k xs) S
    | _ => .bad
  | _ => .bad
noncomputable def srcT (d : D) (S : Sto) : Res Src := match d with
  | .tup xs => .ok (.tmp xs) S
  | _ => .bad
noncomputable def iL (f : Ev D) : Ev Src := fun e S => (f e S).bind srcL
noncomputable def iT (f : Ev D) : Ev Src := fun e S => (f e S).bind srcT
section
variable {cl : Str → Addr} {W : WX} {X : Cx} {a b tgE : Expr} {f g : Ev D} {pos : Pos} {K : PySem.W.Frag}
theorem itl_ok {src : Src} {am : AM} {H : Hp} {a : Addr} (h : ∀ (am' : AM) (H' : Hp) (S' : Sto), Grow am am' H H' → RelS K cl am' S' H' → src.ok S' → ∃ vs, SqL K H' a vs ∧ VRs K am' H' src.items vs) : SrcJ K cl src am H (Itl K a) := by
  intro am' H' S' g rs hs
  obtain ⟨vs, h1, h2⟩ := h am' H' S' g rs hs
  refine ⟨fun i d hd => ?_, fun i hi => ⟨vs, h1, by rw [← h2.length]; exact hi⟩⟩
  obtain ⟨v, hv, rv⟩ := h2.get hd
  refine ⟨⟨vs, v, h1, hv⟩, fun x H2 hy => ?_⟩
  obtain ⟨rfl, hy⟩ := hy
  have e : v = x := Option.some.inj (hv.symm.trans (hy vs h1))
  subst e
  exact ⟨am', .refl, rs, rv⟩
theorem qi_l (ha : QE cl W X a f) : QI cl W X tgE a (iL f) := (pi_list ha).imp fun σ H R ⟨am, e, S, rs, re, p⟩ =>
  ⟨am, e, S, rs, re, (Post.step p).imp fun x H1 ⟨am1, S1, d, _, g1, rs1, rv, p1⟩ => by
    cases rv with
    | @lst a vs ds h1 h2 h3 =>
      refine ⟨a, rfl, ⟨vs, .inl (.inl h1)⟩, p1 am1 _ H1 .refl rs1 (itl_ok fun am' H' S' g rs hs => ⟨vs, .inl (.inl (g.ext.keep _ _ h1 h2).1), h3.mono g⟩)⟩
    | @fls a vs ds h1 h3 =>
      refine ⟨a, rfl, ⟨vs, h1.seq⟩, p1 am1 _ H1 .refl rs1 (itl_ok fun am' H' S' g rs hs => ⟨vs, (h1.ext g.ext).seq, h3.mono g⟩)⟩
    | @ref k a h1 =>
      simp only [srcL] at p1
      cases q : S1[k]? with
      | none => rw [q] at p1; exact p1.elim
      | some o =>
        rw [q] at p1
        cases o with
        | lst xs =>
          obtain ⟨vs, h2, h3⟩ := rs1.ob k _ a q h1
          refine ⟨a, rfl, ⟨vs, .inl (.inl h2)⟩, p1 am1 _ H1 .refl rs1 (itl_ok fun am' H' S' g rs hs => ?_)⟩
          obtain ⟨vs', h2', h3'⟩ := rs.ob k _ a hs (g.get h1)
          exact ⟨vs', .inl (.inl h2'), h3'⟩
        | dct _ => exact p1.elim
        | ins _ _ => exact p1.elim
    | _ => exact p1.elim⟩
theorem qi_t (ha : QE cl W X a f) : QI cl W X tgE a (iT f) := (pi_tup ha).imp fun σ H R ⟨am, e, S, rs, re, p⟩ =>
  ⟨am, e, S, rs, re, (Post.step p).imp fun x H1 ⟨am1, S1, d, _, g1, rs1, rv, p1⟩ => by
    cases rv with
    | @tup a vs ds h1 h2 =>
      refine ⟨a, rfl, ⟨vs, h1.seq⟩, p1 am1 _ H1 .refl rs1 fun am' H' S' g rs hs => ?_⟩
      have h1' := (h1.ext g.ext).seq
      have h2' := h2.mono g
      refine ⟨fun i d hd => ?_, fun i hi => ⟨vs, h1', by rw [← h2'.length]; exact hi⟩⟩
      obtain ⟨v, hv, rv⟩ := h2'.get hd
      refine ⟨⟨vs, v, h1', hv⟩, fun x H2 hy => ?_⟩
      obtain ⟨rfl, hy⟩ := hy
      have e : v = x := Option.some.inj (hv.symm.trans (hy vs h1'))
      subst e
      exact ⟨am', .refl, rs, rv⟩
    | _ => exact p1.elim⟩
/-- range -/
noncomputable def rngD (lo hi : Int) : List D := (List.range (hi - lo).toNat).map fun i : Nat => D.int (lo + (i : Nat))
noncomputable def Rg62 (i : Int) : Prop := -(2 ^ 62) ≤ i ∧ i < 2 ^ 62
noncomputable instance (i : Int) : Decidable (Rg62 i) := by unfold Rg62; infer_instance
noncomputable def srcR1 (ds : List D) (S : Sto) : Res Src := match ds with
  | [.int j] => if Rg62 j then .ok (.tmp (rngD 0 j)) S else .bad
  | _ => .bad
noncomputable def srcR2 (ds : List D) (S : Sto) : Res Src := match ds with
  | [.int i, .int j] => if Rg62 i ∧ Rg62 j then .ok (.tmp (rngD i j)) S else .bad
  | _ => .bad
noncomputable def iR1 (f : Ev D) : Ev Src := fun e S => (eArgs [f] e S).bind srcR1
noncomputable def iR2 (f g : Ev D) : Ev Src := fun e S => (eArgs [f, g] e S).bind srcR2
theorem itr_ok {lo : Int} {n : Nat} {xs : List D} {am : AM} {H : Hp} (hx : xs = (List.range n).map fun i : Nat => D.int (lo + (i : Nat))) : SrcJ K cl (.tmp xs) am H (Itr lo n) := by
  intro am' H' S' g rs hs
  subst hx
  refine ⟨fun i d hd => ?_, fun i hi => by simpa [Itr] using hi⟩
  have hi : i < n := by
    have := (List.getElem?_eq_some_iff.mp hd).1
    simpa using this
  have e : d = .int (lo + (i : Nat)) := by
    have hd : ((List.range n).map fun i : Nat => D.int (lo + (i : Nat)))[i]? = some d := hd
    rw [List.getElem?_map, List.getElem?_range hi] at hd
    exact (Option.some.inj hd).symm
  subst e
  refine ⟨hi, fun x H2 hy => ?_⟩
  obtain ⟨rfl, rfl⟩ := hy
  exact ⟨am', .refl, rs, .int _⟩
variable {p' : Pos}
theorem qi_r1 (hg : Gl X "range") (hm : X.mg "range" = none) (ha : QE cl W X a f) (h0 : starEach [a] X.env = (false, eval a X.env) :: starEach [] X.env := by rfl) (hs : starEach [a] X.env = [(false, eval a X.env)] := by rfl) : QI cl W X tgE (.Call (.Name "range" p') [a] [] pos) (iR1 f) :=
  (pi_range1 hg hm (qa_cons ha qa_nil h0) hs).imp fun σ H R ⟨am, e, S, rs, re, p⟩ =>
    ⟨am, e, S, rs, re, (Post.step p).imp fun xs H1 ⟨am1, S1, ds, _, g1, rs1, rv, p1⟩ => by
      cases rv with
      | nil => exact p1.elim
      | cons r1 r2 =>
        cases r2 with
        | nil =>
          cases r1 with
          | int j =>
            simp only [srcR1] at p1
            by_cases hj : Rg62 j
            · rw [if_pos hj] at p1
              exact ⟨j, rfl, hj.1, hj.2, p1 am1 _ H1 .refl rs1 (itr_ok (by unfold rngD; simp))⟩
            · rw [if_neg hj] at p1
              exact p1.elim
          | _ => exact p1.elim
        | cons _ _ => cases r1 <;> exact p1.elim⟩
theorem qi_r2 (hg : Gl X "range") (hm : X.mg "range" = none) (ha : QE cl W X a f) (hb : QE cl W X b g) (h0 : starEach [a, b] X.env = (false, eval a X.env) :: starEach [b] X.env := by rfl) (h1 : starEach [b] X.env = (false, eval b X.env) :: starEach [] X.env := by rfl)
    (hs : starEach [a, b] X.env = [(false, eval a X.env), (false, eval b X.env)] := by rfl) (hs2 : starEach [b] X.env = [(false, eval b X.env)] := by rfl) : QI cl W X tgE (.Call (.Name "range" p') [a, b] [] pos) (iR2 f g) :=
  (pi_range2 hg hm (qa_cons ha (qa_cons hb qa_nil h1) h0) hs hs2).imp fun σ H R ⟨am, e, S, rs, re, p⟩ =>
    ⟨am, e, S, rs, re, (Post.step p).imp fun xs H1 ⟨am1, S1, ds, _, g1, rs1, rv, p1⟩ => by
      cases rv with
      | nil => exact p1.elim
      | cons r1 r2 =>
        cases r2 with
        | nil => cases r1 <;> exact p1.elim
        | cons r2 r3 =>
          cases r3 with
          | nil =>
            cases r1 with
            | int i =>
              cases r2 with
              | int j =>
                simp only [srcR2] at p1
                by_cases hj : Rg62 i ∧ Rg62 j
                · rw [if_pos hj] at p1
                  exact ⟨i, j, rfl, ⟨hj.1.1, hj.1.2, hj.2.1, hj.2.2⟩, p1 am1 _ H1 .refl rs1 (itr_ok rfl)⟩
                · rw [if_neg hj] at p1
                  exact p1.elim
              | _ => exact p1.elim
            | _ => cases r2 <;> exact p1.elim
          | cons _ _ => cases r1 <;> cases r2 <;> exact p1.elim⟩
end
/-- dead: slots that a turn leaves for none -/
noncomputable def forD (dead : List Nat) (tg : Tg) (src : Src) (body : Stm) : List D → En → Sto → SRes
  | [], e, S => if src.ok S then .next e S else .bad
  | x :: xs, e, S => if src.ok S then match bindT tg x e with
    | none => .bad
    | some e1 => match body e1 S with
      | .next e2 S2 => forD dead tg src body xs (wipeE e2 dead) S2
      | .cnt e2 S2 => forD dead tg src body xs (wipeE e2 dead) S2
      | .brk e2 S2 => .next e2 S2
      | r => r
    else .bad
noncomputable def sFor (dead : List Nat) (tg : Tg) (it : Ev Src) (body : Stm) : Stm := fun e S => (it e S).stm e fun src S => forD dead tg src body src.items e S
section
variable {cl : Str → Addr} {W : WX} {X : Cx} {tgE iter : Expr} {body : List Stmt} {pos : Pos} {it : Ev Src} {tg : Tg} {u : Stm}
theorem qs_for (dead : List Nat) (hp : PassesOwn (model X.prog X.w) X.A X.env X.xe) (hc : X.calm = true) (hi : QI cl W X tgE iter it) (hg : QG cl X tgE tg) (hb : QB cl W X body u) (hs : ∀ x, foldedSetIterable iter X.env x = pure x := by intro _; rfl) :
    QS cl W X (.For tgE iter body [] pos) (sFor dead tg it u) := (ps_for hp hc hi hg hb hs).imp fun E σ H ⟨am, e, S, rs, re, p⟩ => by
  refine ⟨am, e, S, rs, re, (PostS.step re p).imp fun J H1 ⟨am1, S1, src, _, g1, rs1, hJ, p1⟩ => ?_⟩
  refine ⟨fun i m σ H => m = src.items.length - i ∧ i ≤ src.items.length ∧ ∃ am2 e2 S2, Grow am1 am2 H1 H ∧ RelS X.K cl am2 S2 H ∧ RelE X.K am2 H e2 σ ∧ PostS X.K cl W am2 H (forD dead tg src u (src.items.drop i) e2 S2) E,
    ⟨_, rfl, Nat.zero_le _, am1, e, S1, .refl, rs1, re.mono g1, by rw [List.drop_zero]; exact p1⟩, ?_⟩
  rintro i m σ2 H2 ⟨rfl, hi, am2, e2, S2, g2, rs2, re2, p2⟩
  by_cases hok : src.ok S2
  · obtain ⟨hgo, hstop⟩ := hJ am2 H2 S2 g2 rs2 hok
    by_cases hlt : i < src.items.length
    · rw [List.drop_eq_getElem_cons hlt] at p2
      unfold forD at p2
      rw [if_pos hok] at p2
      have hd : src.items[i]? = some src.items[i] := List.getElem?_eq_getElem hlt
      obtain ⟨go, yld⟩ := hgo i _ hd
      refine .inr ⟨go, fun σ' H' => ∃ am3 e3 S3, Grow am1 am3 H1 H' ∧ RelS X.K cl am3 S3 H' ∧ RelE X.K am3 H' e3 σ' ∧ PostS X.K cl W am3 H' (forD dead tg src u (src.items.drop (i + 1)) e3 S3) E,
        fun σ' H' hN => ⟨src.items.length - (i + 1), by omega, rfl, hlt, hN⟩, fun x H3 hy => ?_⟩
      obtain ⟨am3, g3, rs3, rv⟩ := yld x H3 hy
      cases q : bindT tg src.items[i] e2 with
      | none => simp only [q] at p2; exact p2.elim
      | some e3 =>
        simp only [q] at p2
        refine ⟨am3, e2, S2, _, e3, rs3, re2.mono g3, rv, q, fun σ3 re3 _ => ⟨am3, e3, S2, rs3, re3, ?_⟩⟩
        cases q2 : u e3 S2 with
        | next e4 S4 =>
          simp only [q2] at p2
          exact fun am4 σ4 H4 g4 rs4 re4 => ⟨am4, _, S4, (g2.trans g3).trans g4, rs4, re4.forget dead, PostS.grow (g3.trans g4) p2⟩
        | cnt e4 S4 =>
          simp only [q2] at p2
          exact fun am4 σ4 H4 g4 rs4 re4 => ⟨am4, _, S4, (g2.trans g3).trans g4, rs4, re4.forget dead, PostS.grow (g3.trans g4) p2⟩
        | brk e4 S4 =>
          simp only [q2] at p2
          exact fun am4 σ4 H4 g4 rs4 re4 => p2 am4 σ4 H4 (g3.trans g4) rs4 re4
        | ret d S4 =>
          simp only [q2] at p2
          exact fun am4 v H4 g4 rs4 rv4 => p2 am4 v H4 (g3.trans g4) rs4 rv4
        | exc c e4 S4 =>
          simp only [q2] at p2
          exact fun am4 σ4 H4 g4 rs4 re4 => p2 am4 σ4 H4 (g3.trans g4) rs4 re4
        | bad =>
          simp only [q2] at p2
          exact p2
    · have ei : i = src.items.length := by omega
      subst ei
      rw [List.drop_length] at p2
      unfold forD at p2
      rw [if_pos hok] at p2
      exact .inl ⟨hstop _ (Nat.le_refl _), p2 am2 σ2 H2 .refl rs2 re2⟩
  · exfalso
    cases hl : src.items.drop i with
    | nil => rw [hl] at p2; unfold forD at p2; rw [if_neg hok] at p2; exact p2
    | cons x xs => rw [hl] at p2; unfold forD at p2; rw [if_neg hok] at p2; exact p2
end
noncomputable def whileN (dead : List Nat) (t : Ev Bool) (body : Stm) : Nat → En → Sto → SRes
  | 0, _, _ => .bad
  | n + 1, e, S => match t e S with
    | .ok true S => match body e S with
      | .next e2 S2 => whileN dead t body n (wipeE e2 dead) S2
      | .cnt e2 S2 => whileN dead t body n (wipeE e2 dead) S2
      | .brk e2 S2 => .next e2 S2
      | r => r
    | .ok false S => .next e S
    | .exc c S => .exc c e S
    | .bad => .bad
theorem whileN_mono {dead : List Nat} {t : Ev Bool} {body : Stm} : ∀ {n : Nat} {e : En} {S : Sto}, whileN dead t body n e S ≠ .bad → whileN dead t body (n + 1) e S = whileN dead t body n e S
  | 0, _, _, h => absurd rfl h
  | n + 1, e, S, h => by
    unfold whileN at h
    show whileN dead t body (n + 1 + 1) e S = _
    conv => lhs; unfold whileN
    conv => rhs; unfold whileN
    cases q : t e S with
    | ok b S1 =>
      cases b with
      | true =>
        simp only [q] at h ⊢
        cases q2 : body e S1 with
        | next e2 S2 => simp only [q2] at h ⊢; exact whileN_mono h
        | cnt e2 S2 => simp only [q2] at h ⊢; exact whileN_mono h
        | _ => rfl
      | false => rfl
    | exc c S1 => rfl
    | bad => rfl
theorem whileN_le {dead : List Nat} {t : Ev Bool} {body : Stm} {n m : Nat} {e : En} {S : Sto} (h : whileN dead t body n e S ≠ .bad) (hm : n ≤ m) : whileN dead t body m e S = whileN dead t body n e S := by
  induction m with
  | zero => have : n = 0 := by omega
            subst this; rfl
  | succ m ih =>
    by_cases hn : n = m + 1
    · subst hn; rfl
    · have q := ih (by omega)
      rw [← q] at h ⊢
      exact whileN_mono h
open Classical in
noncomputable def whileD (dead : List Nat) (t : Ev Bool) (body : Stm) : Stm := fun e S => if h : ∃ n, whileN dead t body n e S ≠ .bad then whileN dead t body (choose h) e S else .bad
theorem whileD_eq {dead : List Nat} {t : Ev Bool} {body : Stm} {n : Nat} {e : En} {S : Sto} {r : SRes} (h : whileN dead t body n e S = r) (hr : r ≠ .bad) : whileD dead t body e S = r := by
  have hx : ∃ n, whileN dead t body n e S ≠ .bad := ⟨n, by rw [h]; exact hr⟩
  unfold whileD
  rw [dif_pos hx]
  have q := Classical.choose_spec hx
  rcases Nat.le_total n (Classical.choose hx) with hl | hl
  · rw [whileN_le (by rw [h]; exact hr) hl, h]
  · rw [← whileN_le q hl, h]
section
variable {cl : Str → Addr} {W : WX} {X : Cx} {c : Expr} {body : List Stmt} {pos : Pos} {t : Ev Bool} {u : Stm}
theorem qs_while (dead : List Nat) (hp : PassesOwn (model X.prog X.w) X.A X.env X.xe) (hc : QT cl W X c t) (hb : QB cl W X body u) : QS cl W X (.While c body [] pos) (whileD dead t u) := (ps_while hp hc hb).imp fun E σ H ⟨am, e, S, rs, re, p⟩ => by
  unfold whileD at p
  by_cases hx : ∃ n, whileN dead t u n e S ≠ .bad
  · rw [dif_pos hx] at p
    refine ⟨fun n σ H => ∃ am e S, RelS X.K cl am S H ∧ RelE X.K am H e σ ∧ PostS X.K cl W am H (whileN dead t u n e S) E, ⟨_, am, e, S, rs, re, p⟩, ?_⟩
    rintro n σ1 H1 ⟨am1, e1, S1, rs1, re1, p1⟩
    cases n with
    | zero => exact p1.elim
    | succ n =>
      refine ⟨am1, e1, S1, rs1, re1, ?_⟩
      unfold whileN at p1
      cases q : t e1 S1 with
      | exc c S2 =>
        simp only [q] at p1
        exact fun am2 H2 g2 rs2 => p1 am2 σ1 H2 g2 rs2 (re1.mono g2)
      | bad => simp only [q] at p1; exact p1
      | ok b S2 =>
        intro am2 k H2 g2 rs2 rk
        have rk : b = k := rk
        subst rk
        cases b with
        | false =>
          simp only [q] at p1
          show E.nx σ1 H2
          exact p1 am2 σ1 H2 g2 rs2 (re1.mono g2)
        | true =>
          simp only [q] at p1
          refine ⟨fun σ' H' => ∃ am e S, RelS X.K cl am S H' ∧ RelE X.K am H' e σ' ∧ PostS X.K cl W am H' (whileN dead t u n e S) E, fun σ' H' h => ⟨n, Nat.lt_succ_self n, h⟩, am2, e1, S2, rs2, re1.mono g2, ?_⟩
          cases q2 : u e1 S2 with
          | next e4 S4 =>
            simp only [q2] at p1
            exact fun am4 σ4 H4 g4 rs4 re4 => ⟨am4, _, S4, rs4, re4.forget dead, PostS.grow (g2.trans g4) p1⟩
          | cnt e4 S4 =>
            simp only [q2] at p1
            exact fun am4 σ4 H4 g4 rs4 re4 => ⟨am4, _, S4, rs4, re4.forget dead, PostS.grow (g2.trans g4) p1⟩
          | brk e4 S4 =>
            simp only [q2] at p1
            exact fun am4 σ4 H4 g4 rs4 re4 => p1 am4 σ4 H4 (g2.trans g4) rs4 re4
          | ret d S4 =>
            simp only [q2] at p1
            exact fun am4 v H4 g4 rs4 rv4 => p1 am4 v H4 (g2.trans g4) rs4 rv4
          | exc c e4 S4 =>
            simp only [q2] at p1
            exact fun am4 σ4 H4 g4 rs4 re4 => p1 am4 σ4 H4 (g2.trans g4) rs4 re4
          | bad =>
            simp only [q2] at p1
            exact p1
  · rw [dif_neg hx] at p
    exact p.elim
end
end Pu
set_option Elab.async false
set_option linter.all false
set_option maxRecDepth 100000
namespace Pu
open PySem PySem.Spec PyProof.Rows L2
/-- nothing may be raised here -/
noncomputable def nox {α : Type} (r : Res α) : Res α := match r with
  | .ok a S => .ok a S
  | _ => .bad
@[simp] theorem nox_ok {α : Type} {a : α} {S : Sto} : nox (.ok a S) = .ok a S := id rfl
noncomputable def lcD (tg : Tg) (src : Src) (t : Ev Bool) (f : Ev D) (e : En) : List D → Sto → Res (List D)
  | [], S => if src.ok S then .ok [] S else .bad
  | x :: xs, S => if src.ok S then match bindT tg x e with
    | none => .bad
    | some e1 => (nox (t e1 S)).bind fun b S => if b = true then (nox (f e1 S)).bind fun d S => (lcD tg src t f e xs S).bind fun ds S => .ok (d :: ds) S else lcD tg src t f e xs S
    else .bad
theorem lcD_nil {tg : Tg} {src : Src} {t : Ev Bool} {f : Ev D} {e : En} {S : Sto} : lcD tg src t f e [] S = if src.ok S then .ok [] S else .bad := by
  unfold lcD
  rfl
theorem lcD_cons {tg : Tg} {src : Src} {t : Ev Bool} {f : Ev D} {e : En} {S : Sto} {x : D} {xs : List D} : lcD tg src t f e (x :: xs) S = if src.ok S then match bindT tg x e with
    | none => .bad
    | some e1 => (nox (t e1 S)).bind fun b S => if b = true then (nox (f e1 S)).bind fun d S => (lcD tg src t f e xs S).bind fun ds S => .ok (d :: ds) S else lcD tg src t f e xs S
    else .bad := by
  conv => lhs; unfold lcD
noncomputable def nLc (vs : List Nat) (tg : Tg) (it : Ev Src) (t : Ev Bool) (f : Ev D) : Ev DO := fun e S => (it e S).bind fun src S => if src.items.length ≤ sizeLine then (lcD tg src t f (wipeE e vs) src.items S).bind fun ds S => .ok (.lst ds) S else .bad
noncomputable def tYesD : Ev Bool := fun _ S => .ok true S
noncomputable abbrev W0 : WX := fun _ _ _ _ => False
section
variable {K : PySem.W.Frag} {cl : Str → Addr} {W : WX} {am am' : AM} {H H' : Hp} {S : Sto}
/-- a reserved object is written by its owner -/
theorem Ext.own {D : Addr} {o : HO} (hn : D ∈ am.no) : Ext am am H (L2.upd H D o) := ⟨fun _ _ h => h, fun b u hb nb => ⟨by rw [upd_ne (show b ≠ D from fun e => nb (by rw [e]; exact hn))]; exact hb, nb⟩⟩
theorem RelS.own {D : Addr} {o : HO} (r : RelS K cl am S H) (hn : D ∈ am.no) (hd : D ∉ am.ad) : RelS K cl am S (L2.upd H D o) :=
  ⟨r.len, r.nd, fun k u b h1 h2 => (r.ob k u b h1 h2).ext (Ext.own hn) fun w hw => by rw [upd_ne (show b ≠ D from fun e => hd (by rw [← e]; exact List.mem_of_getElem? h2))]; exact hw, fun b hb => by
    by_cases e : b = D
    · exact ⟨o, by rw [e]; exact upd_same⟩
    · obtain ⟨u, q⟩ := r.there b hb
      exact ⟨u, by rw [upd_ne e]; exact q⟩⟩
theorem Grow.own {D : Addr} {o : HO} (g : Grow am am' H H') (h : H D = none) : Grow am am' H (L2.upd H' D o) := ⟨g.pre, g.fresh, g.freshNo, g.noK, fun b u hb nb => by
  rw [upd_ne (ne_of_none hb h)]
  exact g.keep b u hb nb⟩
theorem Grow.inNo {D : Addr} (g : Grow am am' H H') (hD : ∃ o, H D = some o) (hd : D ∉ am.ad) : D ∉ am'.ad := fun z => by
  obtain ⟨o, e⟩ := hD
  have q := g.fresh D z hd
  rw [e] at q; cases q
end
section
variable {cl : Str → Addr} {W : WX} {X : Cx} {elt tgE iter : Expr} {ifs : List Expr} {scope : Scope} {own : List (Str × Nat)} {pos spos : Pos} {it : Ev Src} {tg : Tg} {t : Ev Bool} {f : Ev D}
/-- a clause's tests -/
noncomputable abbrev QTs (cl : Str → Addr) (W : WX) (X : Cx) (ifs : List Expr) (f : Ev Bool) : Prop := PTs X ifs (TD X.K cl W RB f)
theorem qts_nil {X : Cx} : QTs cl W X [] tYesD := ⟨fun pins s σ H Q I ⟨am, e, S, rs, re, p⟩ => pts_nil.run pins s σ H Q I (p am true H .refl rs rfl)⟩
theorem qts_one {X : Cx} {c : Expr} {f : Ev Bool} (h : QT cl W X c f) : QTs cl W X [c] f := pts_one h
/-- the reading of a comprehension, whatever becomes of the list -/
theorem imp_lc {K : PySem.W.Frag} (hsl : ∀ j, j ∈ tg.sl → j ∈ own.map (·.2)) (σ : L2.St) (H : Hp) (Q : VK) :
    TDN K cl W (nLc (own.map (·.2)) tg it t f) σ H Q → tLc (TDi K cl W it) (TDg K cl tg) (TD K cl W0 RB t) (TD K cl W0 (VR K) f) (own.map (·.2)) σ H Q := fun ⟨am, e, S, rs, re, p⟩ => by
  refine ⟨am, e, S, rs, re, (PostN.step p).imp fun J H1 ⟨am1, S1, src, _, g1, rs1, hJ, p1⟩ => ?_⟩
  intro D hD
  by_cases hz : src.items.length ≤ sizeLine
  · rw [if_pos hz] at p1
    have hD0 : H D = none := g1.unborn rs1 hD
    -- the invariant
    refine ⟨fun i m H2 => m = src.items.length - i ∧ i ≤ src.items.length ∧ ∃ am2 S2 acc vacc, Grow am1 am2 H1 H2 ∧ RelS K cl am2 S2 H2 ∧ D ∈ am2.no ∧ D ∉ am2.ad ∧ H2 D = some (.lst vacc) ∧ VRs K am2 H2 acc vacc ∧ acc.length ≤ i ∧
        RelE K am2 H2 (wipeE e (own.map (·.2))) (L2.wipe σ (own.map (·.2))) ∧
        ((lcD tg src t f (wipeE e (own.map (·.2))) src.items S1).bind fun ds S => Res.ok (DO.lst ds) S) = ((lcD tg src t f (wipeE e (own.map (·.2))) (src.items.drop i) S2).bind fun ds S => .ok (.lst (acc ++ ds)) S),
      ⟨_, rfl, Nat.zero_le _, am1.resv D, S1, [], [], Grow.resv hD, rs1.resv hD, List.mem_cons_self, fun z => rs1.new hD (am1.sub D z), upd_same, .nil, Nat.le_refl _, ((re.wipe _).mono g1).mono (Grow.resv hD), by rw [List.drop_zero] <;> rfl⟩, ?_⟩
    rintro i m H2 ⟨rfl, hi, am2, S2, acc, vacc, g2, rs2, dn, dd, hacc, racc, lacc, re2, eqn⟩
    rw [eqn] at p1
    by_cases hok : src.ok S2
    · obtain ⟨hgo, hstop⟩ := hJ am2 H2 S2 g2 rs2 hok
      by_cases hlt : i < src.items.length
      · have hd : src.items[i]? = some src.items[i] := List.getElem?_eq_getElem hlt
        obtain ⟨go, yld⟩ := hgo i _ hd
        rw [List.drop_eq_getElem_cons hlt] at p1 eqn
        rw [lcD_cons, if_pos hok] at p1 eqn
        cases q : bindT tg src.items[i] (wipeE e (own.map (·.2))) with
        | none => simp only [q] at p1; exact p1.elim
        | some e3 =>
          simp only [q] at p1 eqn
          refine .inr ⟨go, fun H' => ∃ am2 S2 acc vacc, Grow am1 am2 H1 H' ∧ RelS K cl am2 S2 H' ∧ D ∈ am2.no ∧ D ∉ am2.ad ∧ H' D = some (.lst vacc) ∧ VRs K am2 H' acc vacc ∧ acc.length ≤ i + 1 ∧
              RelE K am2 H' (wipeE e (own.map (·.2))) (L2.wipe σ (own.map (·.2))) ∧
              ((lcD tg src t f (wipeE e (own.map (·.2))) src.items S1).bind fun ds S => Res.ok (DO.lst ds) S) = ((lcD tg src t f (wipeE e (own.map (·.2))) (src.items.drop (i + 1)) S2).bind fun ds S => .ok (.lst (acc ++ ds)) S),
            fun H' hN => ⟨src.items.length - (i + 1), by omega, rfl, hlt, hN⟩, fun x H3 hy => ?_⟩
          obtain ⟨am3, g3, rs3, rv⟩ := yld x H3 hy
          refine ⟨am3, _, S2, _, e3, rs3, re2.mono g3, rv, q, fun σ3 re3 b3 => ⟨?_, ?_⟩⟩
          · rw [b3.wipe hsl]
            -- wiping twice
            apply List.ext_getElem?
            intro j
            simp only [wipe_get, wipe_length]
            by_cases hj : j ∈ own.map (·.2)
            · simp only [if_pos hj]
            · simp only [if_neg hj]
          · -- the test
            cases q2 : t e3 S2 with
            | exc c S => simp only [q2, nox, Res.bind_bad] at p1; exact p1.elim
            | bad => simp only [q2, nox, Res.bind_bad] at p1; exact p1.elim
            | ok b S4 =>
              simp only [q2, nox, Res.bind_ok] at p1 eqn
              have hDs : ∃ o, H2 D = some o := ⟨_, hacc⟩
              refine ⟨am3, e3, S2, rs3, re3, ?_⟩
              rw [q2]
              intro am4 k H4 g4 rs4 rk
              have rk : b = k := rk
              subst rk
              have g24 := g3.trans g4
              have dd4 : D ∉ am4.ad := g24.inNo hDs dd
              have keepD : ∀ {am' : AM} {H' : Hp}, Grow am2 am' H2 H' → H' D = some (.lst vacc) := fun {am' H'} g => g.keep D _ hacc dd
              cases b with
              | false =>
                rw [if_neg Bool.false_ne_true]
                rw [if_neg Bool.false_ne_true] at eqn
                exact ⟨am4, S4, acc, vacc, g2.trans g24, rs4, g24.noK D dn, dd4, keepD g24, racc.mono g24, by omega, re2.mono g24, eqn⟩
              | true =>
                rw [if_pos rfl]
                rw [if_pos rfl] at p1 eqn
                refine ⟨am4, e3, S4, rs4, re3.mono g4, ?_⟩
                cases q3 : f e3 S4 with
                | exc c S => simp only [q3, nox, Res.bind_bad] at p1; exact p1.elim
                | bad => simp only [q3, nox, Res.bind_bad] at p1; exact p1.elim
                | ok d S5 =>
                  simp only [q3, nox, Res.bind_ok] at p1 eqn
                  intro am5 y H5 g5 rs5 ry
                  have g25 := g24.trans g5
                  have dn5 := g25.noK D dn
                  have dd5 : D ∉ am5.ad := g25.inNo hDs dd
                  have hv : (vacc ++ [y]).length = (acc ++ [d]).length := by rw [List.length_append, List.length_append, racc.length] <;> rfl
                  refine ⟨vacc, keepD g25, by rw [← racc.length]; omega, am5, S5, acc ++ [d], vacc ++ [y], (g2.trans g25).own hD, rs5.own dn5 dd5, dn5, dd5, upd_same,
                    ((racc.mono g25).append (.cons ry .nil)).ext (Ext.own dn5), by rw [List.length_append]; exact Nat.succ_le_succ lacc, (re2.mono g25).ext (Ext.own dn5), ?_⟩
                  rw [eqn]
                  cases lcD tg src t f (wipeE e (own.map (·.2))) (src.items.drop (i + 1)) S5 with
                  | ok ds S6 => simp
                  | exc c S6 => rfl
                  | bad => rfl
      · have ei : i = src.items.length := by omega
        subst ei
        rw [List.drop_length] at p1
        rw [lcD_nil, if_pos hok] at p1
        simp only [Res.bind_ok, List.append_nil] at p1
        exact .inl ⟨hstop _ (Nat.le_refl _), p1 am2 D H2 (g1.trans g2) rs2 hD0 dn dd ⟨vacc, hacc, racc⟩⟩
    · exfalso
      cases hl : src.items.drop i with
      | nil => rw [hl, lcD_nil, if_neg hok] at p1; exact p1
      | cons x xs => rw [hl, lcD_cons, if_neg hok] at p1; exact p1
  · rw [if_neg hz] at p1
    exact p1.elim
variable {py : Pos}
theorem qn_lc (hc : X.calm = true) (hN : X.N.Nodup) (hi : QI cl W X tgE iter it) (ok : BlkOk X.N X.env.scope scope own) (hsl : tg.sl.all fun j => decide (j ∈ own.map (·.2)))
    (hg : ∀ (s : Shared) (H : Hp) (C : Addr) (cs : List (Str × Addr)) (fp : List Addr), QG cl (X.blk s H scope (compEnvC scope cs C X.env) fp) tgE tg) (ht : ∀ (s : Shared) (H : Hp) (C : Addr) (cs : List (Str × Addr)) (fp : List Addr), QTs cl W0 (X.blk s H scope (compEnvC scope cs C X.env) fp) ifs t)
    (he : ∀ (s : Shared) (H : Hp) (C : Addr) (cs : List (Str × Addr)) (fp : List Addr), QE cl W0 (X.blk s H scope (compEnvC scope cs C X.env) fp) elt f) (hs : ∀ x, foldedSetIterable iter X.env x = pure x := by intro _; rfl) :
    QN cl W X (.ListComp elt [⟨tgE, iter, ifs, 0⟩] scope pos) (nLc (own.map (·.2)) tg it t f) :=
  (pe_lc hc hN hi ok hg ht he hs).imp (imp_lc fun j hj => of_decide_eq_true (List.all_eq_true.mp hsl j hj))
theorem imp_set {K : PySem.W.Frag} {i : Nat} {f : Ev D} {E : Ends} {σ : L2.St} {H : Hp} (h : TDs K cl W (sSet i f) E σ H) : TD K cl W (VR K) f σ H (fun x H1 => E.nx (σ.set i (some x)) H1) :=
  let ⟨am, e, S, rs, re, p⟩ := h
  ⟨am, e, S, rs, re, (PostS.step re p).imp fun x H1 ⟨am1, S1, d, _, g1, rs1, rv, p1⟩ => p1 am1 _ H1 .refl rs1 ((re.mono g1).set i rv)⟩
/-- y = [..], on one line, y a local -/
theorem qs_setLc {i : Nat} {y : Str} {g : Ev D} (hc : X.calm = true) (hN : X.N.Nodup) (hy : X.N[i]? = some y) (hyl : X.env.scope.names.lookup y = some .local)
    (hsw : swapsWith (.ListComp elt [⟨tgE, iter, ifs, 0⟩] scope pos) (some (.Name y py)) spos.line X.env = pure true) (hi : QI cl W X tgE iter it) (ok : BlkOk X.N X.env.scope scope own) (hsl : tg.sl.all fun j => decide (j ∈ own.map (·.2)))
    (hg : ∀ (s : Shared) (H : Hp) (C : Addr) (cs : List (Str × Addr)) (fp : List Addr), QG cl (X.blk s H scope (compEnvC scope cs C X.env) fp) tgE tg) (ht : ∀ (s : Shared) (H : Hp) (C : Addr) (cs : List (Str × Addr)) (fp : List Addr), QTs cl W0 (X.blk s H scope (compEnvC scope cs C X.env) fp) ifs t)
    (he : ∀ (s : Shared) (H : Hp) (C : Addr) (cs : List (Str × Addr)) (fp : List Addr), QE cl W0 (X.blk s H scope (compEnvC scope cs C X.env) fp) elt f)
    (kind : ∀ σ H Q, TD X.K cl W (VR X.K) g σ H Q → TDN X.K cl W (nLc (own.map (·.2)) tg it t f) σ H Q) (hs : ∀ x, foldedSetIterable iter X.env x = pure x := by intro _; rfl) :
    QS cl W X (.Assign [.Name y py] (.ListComp elt [⟨tgE, iter, ifs, 0⟩] scope pos) spos) (sSet i g) :=
  (ps_setLc hc hN hy hyl hsw hi ok hg ht he hs).imp fun E σ H h => imp_lc (fun j hj => of_decide_eq_true (List.all_eq_true.mp hsl j hj)) σ H _ (kind _ _ _ (imp_set h))
end
mutual
/-- no number of the store -/
noncomputable def D.gnd : D → Bool
  | .tup xs => gnds xs
  | .tpi xs => gnds xs
  | .lst xs => gnds xs
  | .fls xs => gnds xs
  | .dct xs => gndk xs
  | .ref _ => false
  | _ => true
noncomputable def gnds : List D → Bool
  | [] => true
  | x :: xs => x.gnd && gnds xs
noncomputable def gndk : List (Key × D) → Bool
  | [] => true
  | (_, x) :: xs => x.gnd && gndk xs
end
mutual
/-- all numbers below n -/
noncomputable def D.bel (n : Nat) : D → Bool
  | .tup xs => belows n xs
  | .tpi xs => belows n xs
  | .lst xs => belows n xs
  | .fls xs => belows n xs
  | .dct xs => belowk n xs
  | .ref k => decide (k < n)
  | _ => true
noncomputable def belows (n : Nat) : List D → Bool
  | [] => true
  | x :: xs => x.bel n && belows n xs
noncomputable def belowk (n : Nat) : List (Key × D) → Bool
  | [] => true
  | (_, x) :: xs => x.bel n && belowk n xs
end
noncomputable def DO.bel (n : Nat) : DO → Bool
  | .lst xs => belows n xs
  | .dct xs => belowk n xs
  | .ins _ fs => fs.all fun p => p.2.bel n
mutual
theorem gnd_below (n : Nat) : ∀ d : D, d.gnd = true → d.bel n = true
  | .tup xs, h => gnds_below n xs h
  | .tpi xs, h => gnds_below n xs h
  | .lst xs, h => gnds_below n xs h
  | .fls xs, h => gnds_below n xs h
  | .dct xs, h => gndk_below n xs h
  | .ref _, h => absurd h (by simp [D.gnd])
  | .non, _ => rfl
  | .bl _, _ => rfl
  | .int _, _ => rfl
  | .str _, _ => rfl
theorem gnds_below (n : Nat) : ∀ xs : List D, gnds xs = true → belows n xs = true
  | [], _ => rfl
  | x :: xs, h => by
    have h' : x.gnd = true ∧ gnds xs = true := by simpa [gnds] using h
    show (x.bel n && belows n xs) = true
    rw [gnd_below n x h'.1, gnds_below n xs h'.2]
    rfl
theorem gndk_below (n : Nat) : ∀ xs : List (Key × D), gndk xs = true → belowk n xs = true
  | [], _ => rfl
  | (k, x) :: xs, h => by
    have h' : x.gnd = true ∧ gndk xs = true := by simpa [gndk] using h
    show (x.bel n && belowk n xs) = true
    rw [gnd_below n x h'.1, gndk_below n xs h'.2]
    rfl
end
noncomputable def allSome {α : Type} : List (Option α) → Option (List α)
  | [] => some []
  | some x :: xs => (allSome xs).map (x :: ·)
  | none :: _ => none
/-- what came up within a def is handed back by its data -/
noncomputable def frzV (n : Nat) (S : Sto) : Nat → D → Option D
  | 0, d => if d.bel n = true then some d else none
  | f + 1, d => if d.bel n = true then some d else match d with
    | .ref k => match S[k]? with
      | some (.lst xs) => (allSome (xs.map (frzV n S f))).map .lst
      | some (.dct xs) => (allSome (xs.map fun p => (frzV n S f p.2).map fun y => (p.1, y))).map .dct
      | _ => none
    | .tup xs => (allSome (xs.map (frzV n S f))).map .tup
    | .lst xs => (allSome (xs.map (frzV n S f))).map .lst
    | .dct xs => (allSome (xs.map fun p => (frzV n S f p.2).map fun y => (p.1, y))).map .dct
    | _ => none
/-- what stood keeps within what stood -/
noncomputable def Clo (S S' : Sto) : Prop := S.length ≤ S'.length ∧ ∀ (k : Nat) (o : DO), k < S.length → S'[k]? = some o → S[k]? = some o ∨ o.bel S.length = true
noncomputable instance (S S' : Sto) : Decidable (Clo S S') := Classical.propDecidable _
/-- frz: by its data; keep: all stays; new: one new object comes along -/
inductive Md where
  | frz | keep | new
noncomputable def fin (m : Md) (S : Sto) (d : D) (S' : Sto) : Res D := match m with
  | .keep => .ok d S'
  | .frz => if Clo S S' then (opt (frzV S.length S' 6 d) (S'.take S.length)) else .bad
  | .new => match d with
    | .ref k => if Clo S S' ∧ S.length ≤ k then match S'[k]? with
        | some o => if o.bel S.length = true then .ok (.ref S.length) (S'.take S.length ++ [o]) else .bad
        | none => .bad
      else .bad
    | _ => .bad
noncomputable def retD (m : Md) (S : Sto) (r : SRes) : Res D := match r with
  | .ret d S' => fin m S d S'
  | .next _ S' => fin m S .non S'
  | .exc c _ S' => match m with
    | .keep => .exc c S'
    | _ => if Clo S S' then .exc c (S'.take S.length) else .bad
  | _ => .bad
noncomputable def startE (n : Nat) (ds : List D) : En := ds.map some ++ List.replicate (n - ds.length) none
/-- a def by its body: n names -/
noncomputable def runD (m : Md) (n : Nat) (body : Stm) (ds : List D) (S : Sto) : Res D := retD m S (body (startE n ds) S)
section
variable {K : PySem.W.Frag} {cl : Str → Addr} {W : WX} {am am' : AM} {H H' : Hp} {S S' : Sto} {σ : L2.St}
mutual
theorem VR.bel : ∀ {d : D} {v : V}, VR K am H d v → d.bel am.ad.length = true
  | _, _, .non => rfl
  | _, _, .bl _ => rfl
  | _, _, .int _ => rfl
  | _, _, .str _ => rfl
  | _, _, .tup _ hs => VRs.bel hs
  | _, _, .tpi _ hs => VRs.bel hs
  | _, _, .lst _ _ hs => VRs.bel hs
  | _, _, .fls _ hs => VRs.bel hs
  | _, _, .dct _ _ hs => VRk.bel hs
  | _, _, .ref h => decide_eq_true (List.getElem?_eq_some_iff.mp h).1
theorem VRs.bel : ∀ {ds : List D} {vs : List V}, VRs K am H ds vs → belows am.ad.length ds = true
  | _, _, .nil => rfl
  | _, _, .cons h t => by
    show (D.bel _ _ && belows _ _) = true
    rw [VR.bel h, VRs.bel t]
    rfl
theorem VRk.bel : ∀ {ds : List (Key × D)} {vs : List (Key × V)}, VRk K am H ds vs → belowk am.ad.length ds = true
  | _, _, .nil => rfl
  | _, _, .cons h t => by
    show (D.bel _ _ && belowk _ _) = true
    rw [VR.bel h, VRk.bel t]
    rfl
end
theorem VRf_bel : ∀ {fs : List (Str × D)} {vs : List (Str × V)}, VRf K am H fs vs → (fs.all fun p => p.2.bel am.ad.length) = true
  | _, _, .nil => rfl
  | _, _, .cons h t => by
    rw [List.all_cons, VRf_bel t, h.2.bel]
    rfl
theorem OR.bel {a : Addr} {o : DO} (h : OR K cl am H a o) : o.bel am.ad.length = true := by
  cases o with
  | lst xs => obtain ⟨vs, _, h⟩ := h; exact h.bel
  | dct xs => obtain ⟨vs, _, h⟩ := h; exact h.bel
  | ins c fs =>
    obtain ⟨dx, vs, _, h⟩ := h
    exact VRf_bel h
/-- the store cut back -/
noncomputable def AM.cut (am : AM) (n : Nat) (x : List Addr) (nd : am.ad.Nodup) : AM := ⟨am.ad.take n, am.no.filter fun b => decide (b ∉ am.ad.drop n ∨ b ∈ x), fun a ha => List.mem_filter.mpr ⟨am.sub a (List.mem_of_mem_take ha), decide_eq_true (.inl fun z => by
  have q : (am.ad.take n ++ am.ad.drop n).Nodup := by rw [List.take_append_drop]; exact nd
  exact (List.nodup_append.mp q).2.2 a ha a z rfl)⟩⟩
theorem cut_not {nd : am.ad.Nodup} {n : Nat} {x : List Addr} {a : Addr} (h : a ∉ am.no) : a ∉ (am.cut n x nd).no := fun z => h (List.mem_filter.mp z).1
mutual
theorem VR.cut {n : Nat} {x : List Addr} (nd : am.ad.Nodup) : ∀ {d : D} {v : V}, VR K am H d v → d.bel n = true → VR K (am.cut n x nd) H d v
  | _, _, .non, _ => .non
  | _, _, .bl b, _ => .bl b
  | _, _, .int i, _ => .int i
  | _, _, .str x, _ => .str x
  | _, _, .tup h hs, q => .tup (by
      rcases h with ⟨o, h, d, n⟩ | h
      · exact .inl ⟨o, h, d, cut_not n⟩
      · exact .inr h) (VRs.cut nd hs q)
  | _, _, .tpi h hs, q => .tpi ⟨h.1, cut_not h.2⟩ (VRs.cut nd hs q)
  | _, _, .lst h n hs, q => .lst h (cut_not n) (VRs.cut nd hs q)
  | _, _, .fls h hs, q => .fls (by
      rcases h with ⟨h, n⟩ | h
      · exact .inl ⟨h, cut_not n⟩
      · exact .inr h) (VRs.cut nd hs q)
  | _, _, .dct h n hs, q => .dct h (cut_not n) (VRk.cut nd hs q)
  | _, _, .ref h, q => .ref (by
      show (am.ad.take n)[_]? = some _
      rw [List.getElem?_take_of_lt (of_decide_eq_true q)]
      exact h)
theorem VRs.cut {n : Nat} {x : List Addr} (nd : am.ad.Nodup) : ∀ {ds : List D} {vs : List V}, VRs K am H ds vs → belows n ds = true → VRs K (am.cut n x nd) H ds vs
  | _, _, .nil, _ => .nil
  | _, _, .cons h t, q => .cons (VR.cut nd h (Bool.and_eq_true_iff.mp q).1) (VRs.cut nd t (Bool.and_eq_true_iff.mp q).2)
theorem VRk.cut {n : Nat} {x : List Addr} (nd : am.ad.Nodup) : ∀ {ds : List (Key × D)} {vs : List (Key × V)}, VRk K am H ds vs → belowk n ds = true → VRk K (am.cut n x nd) H ds vs
  | _, _, .nil, _ => .nil
  | _, _, .cons h t, q => .cons (VR.cut nd h (Bool.and_eq_true_iff.mp q).1) (VRk.cut nd t (Bool.and_eq_true_iff.mp q).2)
end
theorem VRf_cut {n : Nat} {x : List Addr} (nd : am.ad.Nodup) : ∀ {fs : List (Str × D)} {vs : List (Str × V)}, VRf K am H fs vs → (fs.all fun p => p.2.bel n) = true → VRf K (am.cut n x nd) H fs vs
  | _, _, .nil, _ => .nil
  | _, _, .cons h t, q => by
    rw [List.all_cons, Bool.and_eq_true] at q
    exact .cons ⟨h.1, h.2.cut nd q.1⟩ (VRf_cut nd t q.2)
theorem OR.cut {n : Nat} {x : List Addr} (nd : am.ad.Nodup) {a : Addr} {o : DO} (h : OR K cl am H a o) (q : o.bel n = true) : OR K cl (am.cut n x nd) H a o := by
  cases o with
  | lst xs => obtain ⟨vs, h1, h⟩ := h; exact ⟨vs, h1, h.cut nd q⟩
  | dct xs => obtain ⟨vs, h1, h⟩ := h; exact ⟨vs, h1, h.cut nd q⟩
  | ins c fs =>
    obtain ⟨dx, vs, h1, h⟩ := h
    exact ⟨dx, vs, h1, VRf_cut nd h q⟩
theorem Grow.cut {x : List Addr} (g : Grow am am' H H') (rs : RelS K cl am S H) (nd : am'.ad.Nodup) : Grow am (am'.cut S.length x nd) H H' := by
  obtain ⟨r, e⟩ := g.pre
  have et : am'.ad.take S.length = am.ad := by rw [e, ← rs.len, List.take_left]
  refine ⟨⟨[], by show am'.ad.take S.length = _; rw [et, List.append_nil]⟩, fun b hb nb => ?_, fun b hb nb => g.freshNo b (List.mem_filter.mp hb).1 nb, fun b hb => List.mem_filter.mpr ⟨g.noK b hb, decide_eq_true (.inl fun z => ?_)⟩, g.keep⟩
  · have hb : b ∈ am'.ad.take S.length := hb
    rw [et] at hb
    exact absurd hb nb
  · have q : (am'.ad.take S.length ++ am'.ad.drop S.length).Nodup := by rw [List.take_append_drop]; exact nd
    have nb : b ∉ am.ad := fun w => (List.nodup_append.mp q).2.2 b (by rw [et]; exact w) b z rfl
    obtain ⟨o, eo⟩ := rs.there b hb
    have := g.fresh b (List.mem_of_mem_drop z) nb
    rw [eo] at this; cases this
theorem RelS.cut {x : List Addr} (g : Grow am am' H H') (rs : RelS K cl am S H) (rs' : RelS K cl am' S' H') (hc : Clo S S') : RelS K cl (am'.cut S.length x rs'.nd) (S'.take S.length) H' := by
  refine ⟨?_, rs'.nd.sublist (List.take_sublist _ _), fun k o a h1 h2 => ?_, fun a ha => rs'.there a (List.mem_filter.mp ha).1⟩
  · show (am'.ad.take S.length).length = _
    rw [List.length_take, List.length_take, rs'.len]
  · have hk : k < S.length := by
      have := (List.getElem?_eq_some_iff.mp h1).1
      rw [List.length_take] at this
      omega
    rw [List.getElem?_take_of_lt hk] at h1
    have h2 : (am'.ad.take S.length)[k]? = some a := h2
    rw [List.getElem?_take_of_lt hk] at h2
    refine (rs'.ob k o a h1 h2).cut rs'.nd ?_
    rcases hc.2 k o hk h1 with q | q
    · obtain ⟨b, hb, ho⟩ := rs.has q
      have := ho.bel
      rw [rs.len] at this
      exact this
    · exact q
theorem allSome_VRs {am1 : AM} {f : D → Option D} (hf : ∀ d v d', VR K am H d v → f d = some d' → VR K am1 H d' v) : ∀ {xs : List D} {vs : List V} {ys : List D}, VRs K am H xs vs → allSome (xs.map f) = some ys → VRs K am1 H ys vs
  | _, _, _, .nil, h => by cases h; exact .nil
  | _, _, ys, .cons (d := d) (ds := ds) h t, q => by
    rw [List.map_cons] at q
    cases e : f d with
    | none => rw [e] at q; cases q
    | some d' =>
      rw [e] at q
      simp only [allSome] at q
      cases e2 : allSome (ds.map f) with
      | none => rw [e2] at q; cases q
      | some ys' =>
        rw [e2] at q
        cases q
        exact .cons (hf _ _ _ h e) (allSome_VRs hf t e2)
theorem allSome_VRk {am1 : AM} {f : D → Option D} (hf : ∀ d v d', VR K am H d v → f d = some d' → VR K am1 H d' v) : ∀ {xs : List (Key × D)} {vs : List (Key × V)} {ys : List (Key × D)}, VRk K am H xs vs → allSome (xs.map fun p => (f p.2).map fun y => (p.1, y)) = some ys → VRk K am1 H ys vs
  | _, _, _, .nil, h => by cases h; exact .nil
  | _, _, ys, .cons (k := k) (d := d) (ds := ds) h t, q => by
    rw [List.map_cons] at q
    cases e : f d with
    | none => simp only [e] at q; cases q
    | some d' =>
      simp only [e, Option.map_some, allSome] at q
      cases e2 : allSome (ds.map fun p => (f p.2).map fun y => (p.1, y)) with
      | none => rw [e2] at q; cases q
      | some ys' =>
        rw [e2] at q
        cases q
        exact .cons (hf _ _ _ h e) (allSome_VRk hf t e2)
theorem VR.frz {n : Nat} (rs : RelS K cl am S H) : ∀ (f : Nat) (d : D) (v : V) (d' : D), VR K am H d v → frzV n S f d = some d' → VR K (am.cut n [] rs.nd) H d' v
  | 0, d, v, d', h, q => by
    unfold frzV at q
    by_cases hb : d.bel n = true
    · rw [if_pos hb] at q
      cases q
      exact h.cut rs.nd hb
    · rw [if_neg hb] at q
      cases q
  | f + 1, d, v, d', h, q => by
    unfold frzV at q
    by_cases hb : d.bel n = true
    · rw [if_pos hb] at q
      cases q
      exact h.cut rs.nd hb
    · rw [if_neg hb] at q
      have ih := VR.frz (n := n) rs f
      cases h with
      | @ref k a h1 =>
        simp only at q
        have hk : ¬ k < n := fun z => hb (decide_eq_true z)
        have na : a ∉ (am.cut n [] rs.nd).no := fun z => by
          rcases of_decide_eq_true (List.mem_filter.mp z).2 with z | z
          · refine z ?_
            obtain ⟨hl, e⟩ := List.getElem?_eq_some_iff.mp h1
            rw [List.mem_drop_iff_getElem]
            exact ⟨k - n, by omega, by simp only [show n + (k - n) = k by omega]; exact e⟩
          · cases z
        cases e : S[k]? with
        | none => rw [e] at q; cases q
        | some o =>
          rw [e] at q
          cases o with
          | lst xs =>
            obtain ⟨vs, h2, h3⟩ := rs.ob k _ a e h1
            simp only at q
            cases e2 : allSome (xs.map (frzV n S f)) with
            | none => rw [e2] at q; cases q
            | some ys =>
              rw [e2] at q
              cases q
              exact .lst h2 na (allSome_VRs ih h3 e2)
          | dct xs =>
            obtain ⟨vs, h2, h3⟩ := rs.ob k _ a e h1
            simp only at q
            cases e2 : allSome (xs.map fun p => (frzV n S f p.2).map fun y => (p.1, y)) with
            | none => rw [e2] at q; cases q
            | some ys =>
              rw [e2] at q
              cases q
              exact .dct h2 na (allSome_VRk ih h3 e2)
          | ins c fs => cases q
      | @tup a vs xs h1 h3 =>
        simp only at q
        cases e2 : allSome (xs.map (frzV n S f)) with
        | none => rw [e2] at q; cases q
        | some ys =>
          rw [e2] at q
          cases q
          exact .tup (by
            rcases h1 with ⟨o, h1, d1, n1⟩ | h1
            · exact .inl ⟨o, h1, d1, cut_not n1⟩
            · exact .inr h1) (allSome_VRs ih h3 e2)
      | @lst a vs xs h1 n1 h3 =>
        simp only at q
        cases e2 : allSome (xs.map (frzV n S f)) with
        | none => rw [e2] at q; cases q
        | some ys =>
          rw [e2] at q
          cases q
          exact .lst h1 (cut_not n1) (allSome_VRs ih h3 e2)
      | @dct a vs xs h1 n1 h3 =>
        simp only at q
        cases e2 : allSome (xs.map fun p => (frzV n S f p.2).map fun y => (p.1, y)) with
        | none => rw [e2] at q; cases q
        | some ys =>
          rw [e2] at q
          cases q
          exact .dct h1 (cut_not n1) (allSome_VRk ih h3 e2)
      | _ => cases q
/-- what is handed back is what is promised -/
theorem fin_ok {m : Md} {d : D} {v : V} {Q : VK} (rs : RelS K cl am S H) (p : Post K cl W σ (VR K) am H (fin m S d S') Q) (g : Grow am am' H H') (rs' : RelS K cl am' S' H') (rv : VR K am' H' d v) : Q v H' := by
  cases m with
  | keep => exact p am' v H' g rs' rv
  | frz =>
    simp only [fin] at p
    by_cases hc : Clo S S'
    · rw [if_pos hc] at p
      cases e : frzV S.length S' 6 d with
      | none => rw [e] at p; exact p.elim
      | some d' =>
        rw [e] at p
        exact p _ v H' (g.cut (x := []) rs rs'.nd) (RelS.cut g rs rs' hc) (VR.frz rs' 6 d v d' rv e)
    · rw [if_neg hc] at p
      exact p.elim
  | new =>
    cases rv with
    | @ref k a h1 =>
      simp only [fin] at p
      by_cases hc : Clo S S' ∧ S.length ≤ k
      · rw [if_pos hc] at p
        cases e : S'[k]? with
        | none => rw [e] at p; exact p.elim
        | some o =>
          rw [e] at p
          simp only at p
          by_cases hb : o.bel S.length = true
          · rw [if_pos hb] at p
            -- the object at a comes along, at its new number
            have hm : a ∈ am'.ad := List.mem_of_getElem? h1
            have na : a ∉ am.ad := fun z => by
              obtain ⟨r, er⟩ := g.pre
              obtain ⟨j, hj, ej⟩ := List.mem_iff_getElem.mp z
              have h2 : am'.ad[j]? = some a := by rw [er, List.getElem?_append_left hj, List.getElem?_eq_getElem hj, ej]
              have := nd_ix rs'.nd h1 h2
              rw [rs.len] at hj
              omega
            have hH : H a = none := g.fresh a hm na
            have gc : Grow am (am'.cut S.length [a] rs'.nd) H H' := g.cut rs rs'.nd
            have rc : RelS K cl (am'.cut S.length [a] rs'.nd) (S'.take S.length) H' := RelS.cut g rs rs' hc.1
            have hno : a ∈ (am'.cut S.length [a] rs'.nd).no := List.mem_filter.mpr ⟨am'.sub a hm, decide_eq_true (.inr (by simp))⟩
            have had : a ∉ (am'.cut S.length [a] rs'.nd).ad := fun z => na (by
              obtain ⟨r, er⟩ := g.pre
              have z : a ∈ am'.ad.take S.length := z
              rw [er, ← rs.len, List.take_left] at z
              exact z)
            have ho := (rs'.ob k o a e h1).cut (x := [a]) rs'.nd hb
            refine p _ (.ref a) H' (gc.push hno hH) (rc.push hno had ho) (.ref ?_)
            show ((am'.cut S.length [a] rs'.nd).ad ++ [a])[S.length]? = some a
            have hl : (am'.cut S.length [a] rs'.nd).ad.length = S.length := by
              rw [rc.len, List.length_take]
              have := hc.1.1
              omega
            rw [List.getElem?_append_right (by rw [hl]; exact Nat.le_refl _), hl, Nat.sub_self]
            rfl
          · rw [if_neg hb] at p
            exact p.elim
      · rw [if_neg hc] at p
        exact p.elim
    | _ => exact p.elim
end
end Pu
set_option Elab.async false
set_option linter.all false
set_option maxRecDepth 100000
namespace Pu
open PySem PySem.Spec PyProof.Rows L2
noncomputable def SpD (K : PySem.W.Frag) (cl : Str → Addr) (n : Nat) (F : List D → Sto → Res D) : Sp := fun vs H Q E =>
  ∃ am ds S, ds.length = n ∧ RelS K cl am S H ∧ VRs K am H ds vs ∧ Post K cl (fun c d _ H => E c d H) [] (VR K) am H (F ds S) Q
/-- a def of the text stands where its name says -/
structure DefIn (K : PySem.W.Frag) (mg : Str → Option Value) (x : Str) (st : Stmt) (ps : List Str) : Prop where
  ex : ∃ f fd, Fun K x x st f fd ∧ mg x = some (.ref f) ∧ ∀ us : List Value, us.length = ps.length → bindArgs fd ⟨us, []⟩ = pure (ps.zip us)
structure DefOk (P : Program) (w : World) (K : PySem.W.Frag) (mg : Str → Option Value) (base : Heap) (cl : Str → Addr) (x : Str) (k : Nat) (ps : List Str) (F : List D → Sto → Res D) : Prop where
  ex : ∃ f fd, FnOk P w K mg base (L2N.CX P w) k f fd ps (SpD K cl ps.length F) ∧ mg x = some (.ref f) ∧ PySem.W.keepIn K (.ref f) = true ∧ (∀ us : List Value, us.length = ps.length → bindArgs fd ⟨us, []⟩ = pure (ps.zip us)) ∧
    ∃ (oc : Value) (od : Option Addr) (osl : Array (Option Value)), K.lookup f = some ⟨oc, od, .func fd, osl⟩
section
variable {P : Program} {w : World} {K : PySem.W.Frag} {mg : Str → Option Value} {base : Heap} {cl : Str → Addr}
theorem DefOk.mono {x : Str} {k j : Nat} {ps : List Str} {F : List D → Sto → Res D} (d : DefOk P w K mg base cl x k ps F) (h : k ≤ j) : DefOk P w K mg base cl x j ps F :=
  let ⟨f, fd, a, b⟩ := d.ex
  ⟨f, fd, a.mono h, b⟩
theorem startE_rel {am : AM} {H : Hp} {ds : List D} {vs : List V} {N : List Str} (h : VRs K am H ds vs) : RelE K am H (startE N.length ds) (L2.start N vs) := by
  refine ⟨?_, fun i d hd => ?_⟩
  · unfold startE L2.start
    simp [h.length]
  · unfold startE at hd
    unfold L2.start
    by_cases hi : i < ds.length
    · rw [List.getElem?_append_left (by simpa using hi), List.getElem?_map] at hd
      cases e : ds[i]? with
      | none => rw [e] at hd; cases hd
      | some z =>
        rw [e] at hd
        cases hd
        obtain ⟨v, hv, rv⟩ := h.get e
        refine ⟨v, ?_, rv⟩
        rw [List.getElem?_append_left (by rw [List.length_map, ← h.length]; exact hi), List.getElem?_map, hv]
        rfl
    · rw [List.getElem?_append_right (by simpa using hi), List.getElem?_replicate] at hd
      split at hd <;> cases hd
theorem qf_mk {k : Nat} {N ps : List Str} {st : Stmt} {x qual : Str} {f : Addr} {fd : FuncData} {m : Md} {body : Stm} (Fn : Fun K x qual st f fd) (Sc : FnScope N ps (defScope st))
    (hb : ∀ (cdv : Value) (A : Around) (outer : List PySem.Env) (s : Shared) (H : Hp) (E : XK), Room k (A.deeper (envOfC qual (defScope st) s.heap.objs.size f cdv)) →
      QB cl (fun c d _ H => E c d H) (cxOf (L2N.CX P w) P w K mg base N qual (defScope st) f cdv A outer s H E) (defBody st) body) :
    FnOk P w K mg base (L2N.CX P w) (k + 1) f fd ps (SpD K cl ps.length (runD m N.length body)) := by
  obtain ⟨oc, od, kV, doc, pm, an, cdv, ct, osl, rfl, lk, hcd⟩ := Fn.ex
  refine fn_of lk hcd Sc (fun vs H Q E h => ?_) (fun A outer s H vs Q E hr h => ⟨_, hb cdv A outer s H E hr, ?_⟩)
  · obtain ⟨am, ds, S, hl, _, hv, _⟩ := h
    rw [← hv.length, hl]
  · obtain ⟨am, ds, S, hl, rs, hv, p⟩ := h
    refine ⟨am, startE N.length ds, S, rs, startE_rel hv, ?_⟩
    unfold runD at p
    cases q : body (startE N.length ds) S with
    | next e S' =>
      rw [q] at p
      exact fun am' σ H' g rs' re' => fin_ok rs p g rs' .non
    | ret d S' =>
      rw [q] at p
      exact fun am' v H' g rs' rv => fin_ok rs p g rs' rv
    | brk e S' => rw [q] at p; exact p.elim
    | cnt e S' => rw [q] at p; exact p.elim
    | exc c e S' =>
      rw [q] at p
      intro am' σ H' g rs' re'
      have other : m ≠ .keep → Post K cl (fun c d _ H => E c d H) [] (VR K) am H (if Clo S S' then (.exc c (S'.take S.length) : Res D) else .bad) Q → E (.ref (cl c)) none H' := fun _ p => by
        by_cases hc : Clo S S'
        · rw [if_pos hc] at p
          exact p _ H' (g.cut (x := []) rs rs'.nd) (RelS.cut g rs rs' hc)
        · rw [if_neg hc] at p
          exact p.elim
      cases m with
      | keep => exact p am' H' g rs'
      | frz => exact other (fun z => nomatch z) p
      | new => exact other (fun z => nomatch z) p
    | bad => rw [q] at p; exact p.elim
theorem def_ok {k : Nat} {N ps : List Str} {st : Stmt} {x : Str} {m : Md} {body : Stm} (I : DefIn K mg x st ps) (Sc : FnScope N ps (defScope st))
    (hb : ∀ (f : Addr) (cdv : Value) (A : Around) (outer : List PySem.Env) (s : Shared) (H : Hp) (E : XK), Room k (A.deeper (envOfC x (defScope st) s.heap.objs.size f cdv)) →
      QB cl (fun c d _ H => E c d H) (cxOf (L2N.CX P w) P w K mg base N x (defScope st) f cdv A outer s H E) (defBody st) body) :
    DefOk P w K mg base cl x (k + 1) ps (runD m N.length body) := by
  obtain ⟨f, fd, Fn, hm, hbd⟩ := I.ex
  obtain ⟨oc, od, kV, doc, pm, an, cdv, ct, osl, e, lk, hcd⟩ := Fn.ex
  exact ⟨f, fd, qf_mk Fn Sc (hb f), hm, Fn.kp, hbd, oc, od, osl, lk⟩
/-- the law's own def, for the end -/
theorem law_fn {k : Nat} {x : Str} {F : List D → Sto → Res D} {st : Stmt} {ps : List Str} {fa : Addr} (I : DefIn K mg x st ps) (hfa : mg x = some (.ref fa)) : ∃ fd : FuncData, (∀ us : List Value, us.length = ps.length → bindArgs fd ⟨us, []⟩ = pure (ps.zip us)) ∧
    ∀ base : Heap, DefOk P w K mg base cl x k ps F → FnOk P w K mg base (L2N.CX P w) k fa fd ps (SpD K cl ps.length F) := by
  obtain ⟨f, fd, Fn, hm, hbd⟩ := I.ex
  obtain ⟨oc, od, kV, doc, pm, an, cdv, ct, osl, e, lk, hcd⟩ := Fn.ex
  cases hfa.symm.trans hm
  refine ⟨fd, hbd, fun base G => ?_⟩
  obtain ⟨f2, fd2, Fk, hm2, _, _, oc2, od2, osl2, lk2⟩ := G.ex
  cases hfa.symm.trans hm2
  rw [lk] at lk2
  cases lk2
  exact Fk
theorem defIn_mk {h : Heap} {x : Str} {st : Stmt} {ps : List Str} {f : Addr} {oc : Value} {od an : Option Addr} {osl : Array (Option Value)} {kV doc pm cdv ct : Value} (X : K.In h) (G : h.Ns mainGlobals mg)
    (a : PySem.W.nsIn K mainGlobals x = some (some (.ref f))) (l : K.lookup f = some ⟨oc, od, .func (PySem.W.fnOf x x (defArgs st) (defBody st) (defScope st) .none kV doc pm an cdv ct), osl⟩) (c : PySem.W.codeIn K cdv x = true) (k : PySem.W.keepIn K (.ref f) = true)
    (hb : ∀ (kV doc pm : Value) (an : Option Addr) (cdv ct : Value) (us : List Value), us.length = ps.length → bindArgs (PySem.W.fnOf x x (defArgs st) (defBody st) (defScope st) .none kV doc pm an cdv ct) ⟨us, []⟩ = pure (ps.zip us)) : DefIn K mg x st ps :=
  ⟨f, _, fun_mk l c k, PySem.W.mg_of X G a, hb kV doc pm an cdv ct⟩
end
noncomputable def eFn (F : List D → Sto → Res D) (fs : List (Ev D)) : Ev D := fun e S => (eArgs fs e S).bind F
section
variable {cl : Str → Addr} {W : WX} {X : Cx} {a b c : Expr} {es : List Expr} {f g h : Ev D} {fs : List (Ev D)} {pos p : Pos} {x : Str}
theorem qe_fn {k : Nat} {ps : List Str} {F : List D → Sto → Res D} (G : DefOk X.prog X.w X.K X.mg X.base cl x k ps F) (hr : Room k X.A) (hg : Gl X x) (tk : L2N.Takes X W) (ha : QA cl W X (a :: es) (eArgs fs)) (hn : fs.length = ps.length := by rfl) (hdb : (x == ("__debug__" : Str)) = false := by decide)
    (he : starEach (a :: es) X.env = (false, eval a X.env) :: starEach es X.env := by rfl) (hpl : (backTo pos (starEach es X.env)).any (·.1) = false := by rfl) : QE cl W X (.Call (.Name x p) (a :: es) [] pos) (eFn F fs) := by
  obtain ⟨ff, fd, Fk, hm, hk, hbd, _⟩ := G.ex
  refine (pe_callS Fk hr hg hm hk (.all hbd) (fun σ => L2N.passAt tk σ) ha hdb he hpl).imp fun σ H Q ⟨am, e, S, rs, re, p⟩ => ?_
  exact ⟨am, e, S, rs, re, (Post.step p).imp fun xs H1 ⟨am1, S1, ds, ee, g1, rs1, rvs, p1⟩ => ⟨am1, ds, S1, by rw [eArgs_len ee, hn], rs1, rvs, p1⟩⟩
end
noncomputable def keyOf : D → Option Key
  | .int i => some (.inl i)
  | .str x => some (.inr x)
  | _ => none
noncomputable def getK (kvs : List (Key × D)) (k : Key) : Option D := (kvs.find? fun kv => decide (kv.1 = k)).map (·.2)
noncomputable def putD (kvs : List (Key × D)) (k : Key) (v : D) : List (Key × D) := if (kvs.any fun kv => decide (kv.1 = k)) = true then kvs.map (fun kv => if kv.1 = k then (kv.1, v) else kv) else kvs ++ [(k, v)]
/-- o[i]: of a list, a tuple, a text, a dict -/
noncomputable def ixD (d i : D) (S : Sto) : Res D := match dcOf S d with
  | some kvs => match keyOf i with
    | some k => opt (getK kvs k) S
    | none => .bad
  | none => match i with
    | .int j => match d with
      | .str x => if x.length ≤ sizeLine then opt ((atI x.cps.toList j).map fun c => .str ⟨#[c]⟩) S else .bad
      | d => match sqOf S d with
        | some xs => opt (atI xs j) S
        | none => .bad
    | _ => .bad
section
variable {K : PySem.W.Frag} {cl : Str → Addr} {am : AM} {H : Hp} {S : Sto}
theorem keyOf_ok {d : D} {v : V} {k : Key} (h : VR K am H d v) (e : keyOf d = some k) : v = kV k := by
  cases h with
  | int i => cases e; rfl
  | str x => cases e; rfl
  | _ => cases e
theorem VRk.get : ∀ {ds : List (Key × D)} {vs : List (Key × V)} (k : Key), VRk K am H ds vs → (getK ds k = none ∧ valV vs k = none) ∨ ∃ d v, getK ds k = some d ∧ valV vs k = some v ∧ VR K am H d v
  | _, _, k, .nil => .inl ⟨rfl, rfl⟩
  | _, _, k, .cons (k := k') (d := d) (v := v) h t => by
    by_cases e : k' = k
    · subst e
      exact .inr ⟨d, v, by simp [getK], by simp [valV], h⟩
    · have ih := VRk.get k t
      unfold getK valV at ih ⊢
      rw [List.find?_cons_of_neg (by simpa using e), List.find?_cons_of_neg (by simpa using e)]
      exact ih
theorem VRk.any {ds : List (Key × D)} {vs : List (Key × V)} (k : Key) (h : VRk K am H ds vs) : (ds.any fun kv => decide (kv.1 = k)) = (vs.any fun kv => decide (kv.1 = k)) := by
  induction ds generalizing vs with
  | nil => cases h; rfl
  | cons p ds ih =>
    cases h with
    | cons h t => rw [List.any_cons, List.any_cons, ih t]
theorem VRk.map {ds : List (Key × D)} {vs : List (Key × V)} (k : Key) {d : D} {v : V} (hv : VR K am H d v) : VRk K am H ds vs → VRk K am H (ds.map fun kv => if kv.1 = k then (kv.1, d) else kv) (vs.map fun kv => if kv.1 = k then (kv.1, v) else kv) := fun h => by
  induction ds generalizing vs with
  | nil => cases h; exact .nil
  | cons p ds ih =>
    cases h with
    | @cons k' d' v' ds vs h t =>
      rw [List.map_cons, List.map_cons]
      by_cases e : k' = k
      · simp only [e, if_true]
        exact .cons hv (ih t)
      · simp only [if_neg e]
        exact .cons h (ih t)
theorem VRk.append : ∀ {ds es : List (Key × D)} {vs us : List (Key × V)}, VRk K am H ds vs → VRk K am H es us → VRk K am H (ds ++ es) (vs ++ us)
  | _, _, _, _, .nil, h => h
  | _, _, _, _, .cons h t, h' => .cons h (VRk.append t h')
theorem VRk.put {ds : List (Key × D)} {vs : List (Key × V)} (k : Key) {d : D} {v : V} (h : VRk K am H ds vs) (hv : VR K am H d v) : VRk K am H (putD ds k d) (putK vs k v) := by
  unfold putD putK
  rw [h.any k]
  by_cases e : (vs.any fun kv => decide (kv.1 = k)) = true
  · rw [if_pos e, if_pos e]
    exact h.map k hv
  · rw [if_neg e, if_neg e]
    exact h.append (.cons hv .nil)
theorem VRk.length : ∀ {ds : List (Key × D)} {vs : List (Key × V)}, VRk K am H ds vs → ds.length = vs.length
  | _, _, .nil => rfl
  | _, _, .cons _ t => by rw [List.length_cons, List.length_cons, VRk.length t]
theorem atI_some {ds : List D} {vs : List V} {j : Int} {d : D} (h : VRs K am H ds vs) (e : atI ds j = some d) : ∃ v, atI vs j = some v ∧ VR K am H d v := by
  unfold atI at e ⊢
  rw [← h.length]
  cases q : ixN ds.length j with
  | none => rw [q] at e; cases e
  | some n => rw [q] at e; exact h.get e
end
section
variable {cl : Str → Addr} {W : WX} {X : Cx} {a b c : Expr} {es : List Expr} {f g h : Ev D} {fs : List (Ev D)} {pos p : Pos} {x : Str}
noncomputable def rKey : R2 := fun x y H Q => ∃ a v, x = .ref a ∧ DGet H a y (some v) ∧ Q v H
theorem ix_key (hu : X.A.units + 1 < cLine) : IxR X rKey := by
  intro value slice pins s σ H x y v u Q I rx ry h hs
  obtain ⟨a, vv, rfl, g, q⟩ := h
  cases rx
  have hT := dict_typeIs I g
  unfold subscriptTail
  refine wpAny_bind ?_
  rw [getitemInPython_of_ne hT.not_modules]
  refine wpAny_bind (wpAny_specialOf hT PySem.F.slot_dict_getitem.lookup ?_)
  have fin : wpAny (model X.prog X.w) X.A (subscripted slice false (.ref a) u) (fun r s₃ => wpAny (model X.prog X.w) X.A (letTemporaryGo value (.ref a) r >>= fun _ => pure r) (EP X pins σ Q) X.xe s₃) X.xe s := by
    rw [hs]
    exact wpAny_operating (wpAny_mono (d_getItem hu I g ry fun w' s' I' rw' => (⟨vv, H, I', rw', q⟩ : EP X pins σ Q w' s')) (fun r s₃ h₃ => wpAny_bind (wpAny_letTemporaryGo (wpAny_pure h₃))) fun _ _ x => x)
  first
    | exact wpAny_pure (wpAny_bind fin)
    | exact wpAny_bind (wpAny_pure (wpAny_bind fin))
    | exact wpAny_bind fin
theorem qe_ix {k : Nat} (hr : Room k X.A) (ha : QE cl W X a f) (hb : QE cl W X b g) (hs : PlainIx b := by intro _ _; rfl) : QE cl W X (.Subscript a b pos) (e2 ixD f g) :=
  (pe_ix (ix_seq.or (ix_key (hu_of hr))) ha hb hs).imp (imp_2 fun W σ am S H d e v u Q rs h1 h2 p => by
    unfold ixD at p
    cases q : dcOf S d with
    | some kvs =>
      rw [q] at p
      obtain ⟨a, vs, ev, r1, hk⟩ := dcOf_ok rs h1 q
      simp only at p
      cases q2 : keyOf e with
      | none => rw [q2] at p; exact p.elim
      | some k =>
        rw [q2] at p
        simp only at p
        have eu := keyOf_ok h2 q2
        rcases hk.get k with ⟨g1, g2⟩ | ⟨d', v', g1, g2, rv⟩
        · rw [g1] at p; exact p.elim
        · rw [g1] at p
          refine .inr ⟨a, v', ev, .inl ⟨vs, k, .inl r1, eu, g2.symm⟩, p am v' H .refl rs rv⟩
    | none =>
      rw [q] at p
      simp only at p
      cases h2 with
      | int j =>
        have seq : Post X.K cl W σ (VR X.K) am H (match sqOf S d with | some xs => opt (atI xs j) S | none => .bad) Q → rIxL X.K v (.int j) H Q ∨ rIxT X.K v (.int j) H Q ∨ rIxS v (.int j) H Q := fun p => by
          cases q3 : sqOf S d with
          | none => rw [q3] at p; exact p.elim
          | some xs =>
            rw [q3] at p
            simp only at p
            obtain ⟨a, vs, ev, hq, hs⟩ := sqOf_ok rs h1 q3
            cases q4 : atI xs j with
            | none => rw [q4] at p; exact p.elim
            | some d' =>
              rw [q4] at p
              obtain ⟨v', hv', rv⟩ := atI_some hs q4
              have := p am v' H .refl rs rv
              rcases hq with hq | hq
              · exact .inl ⟨a, vs, j, v', ev, rfl, hq, hv', this⟩
              · exact .inr (.inl ⟨a, vs, j, v', ev, rfl, hq, hv', this⟩)
        refine .inl ?_
        cases h1 with
        | str x =>
          simp only at p
          by_cases hz : x.length ≤ sizeLine
          · rw [if_pos hz] at p
            cases q4 : atI x.cps.toList j with
            | none => rw [q4] at p; exact p.elim
            | some c =>
              rw [q4] at p
              exact .inr (.inr ⟨x, j, c, rfl, rfl, hz, q4, p am _ H .refl rs (.str _)⟩)
          · rw [if_neg hz] at p
            exact p.elim
        | _ => exact seq p
      | _ => exact p.elim)
noncomputable def QP (cl : Str → Addr) (W : WX) (X : Cx) (e : Option Expr) (f : Ev (Option Int)) : Prop := PO X e (TD X.K cl W (fun _ _ a b => a = b) f)
theorem _root_.L2.PO.imp {X : Cx} {e : Option Expr} {t t' : TO} (h : PO X e t) (i : ∀ σ H Q, t' σ H Q → t σ H Q) : PO X e t' := ⟨fun pins s σ H Q I q => h.run pins s σ H Q I (i σ H Q q)⟩
noncomputable def pN : Ev (Option Int) := fun _ S => .ok none S
noncomputable def pE (f : Ev D) : Ev (Option Int) := fun e S => (f e S).bind fun d S => match d with
  | .int i => .ok (some i) S
  | _ => .bad
theorem qp_n : QP cl W X none pN := po_none.imp fun σ H Q ⟨am, e, S, rs, re, p⟩ => p am none H .refl rs rfl
theorem qp_e (ha : QE cl W X a f) : QP cl W X (some a) (pE f) := (po_some ha).imp fun σ H Q ⟨am, e, S, rs, re, p⟩ =>
  ⟨am, e, S, rs, re, (Post.step p).imp fun x H1 ⟨am1, S1, d, _, g1, rs1, rv, p1⟩ => by
    cases rv with
    | int i => exact ⟨i, rfl, p1 am1 _ H1 .refl rs1 rfl⟩
    | _ => exact p1.elim⟩
noncomputable def cutL {α : Type} (xs : List α) (lo hi : Option Int) : List α := (xs.drop (HT.sIx xs.length 0 lo)).take (HT.sIx xs.length xs.length hi - HT.sIx xs.length 0 lo)
noncomputable def slD (d : D) (lo hi : Option Int) (S : Sto) : Res D := match d with
  | .str x => if x.length ≤ sizeLine then .ok (.str (cutS x lo hi)) S else .bad
  | .tup xs => .ok (.tup (cutL xs lo hi)) S
  | d => match lsOf S d with
    | some xs => .ok (.lst (cutL xs lo hi)) S
    | none => .bad
noncomputable def eSl (f : Ev D) (p q : Ev (Option Int)) : Ev D := fun e S => (f e S).bind fun d S => (p e S).bind fun lo S => (q e S).bind fun hi S => slD d lo hi S
theorem VRs.cutL {K : PySem.W.Frag} {am : AM} {H : Hp} {ds : List D} {vs : List V} (h : VRs K am H ds vs) (lo hi : Option Int) : VRs K am H (cutL ds lo hi) (cutV vs lo hi) := by
  unfold Pu.cutL cutV
  rw [← h.length]
  exact (h.drop _).take _
theorem cutL_all {α : Type} {xs : List α} {lo hi : Option Int} (h : HT.sIx xs.length 0 lo = 0 ∧ HT.sIx xs.length xs.length hi = xs.length) : cutL xs lo hi = xs := by
  unfold cutL
  rw [h.1, h.2]
  simp
theorem qe_sl {lo hi : Option Expr} {p2 : Pos} {p q : Ev (Option Int)} (ha : QE cl W X a f) (hl : QP cl W X lo p) (hh : QP cl W X hi q) : QE cl W X (.Subscript a (.Slice lo hi none p2) pos) (eSl f p q) :=
  (pe_slice (SlR.or sl_str (SlR.or sl_tupF sl_list)) ha hl hh).imp fun σ H Q ⟨am, e, S, rs, re, p⟩ =>
    ⟨am, e, S, rs, re, (Post.step p).imp fun x H1 ⟨am1, S1, d, _, g1, rs1, rv, p1⟩ =>
      ⟨am1, e, S1, rs1, re.mono g1, (Post.step p1).imp fun l H2 ⟨am2, S2, l', _, g2, rs2, rl, p2⟩ =>
        ⟨am2, e, S2, rs2, (re.mono g1).mono g2, (Post.step p2).imp fun u H3 ⟨am3, S3, u', _, g3, rs3, ru, p3⟩ => by
          have rl : l' = l := rl
          have ru : u' = u := ru
          subst rl ru
          have rv3 := (rv.mono g2).mono g3
          have ls : Post X.K cl W σ (VR X.K) am3 H3 (match lsOf S3 d with | some xs => .ok (.lst (cutL xs l' u')) S3 | none => .bad) Q → rSlL X.K x l' u' H3 Q := fun p => by
            cases q : lsOf S3 d with
            | none => rw [q] at p; exact p.elim
            | some xs =>
              rw [q] at p
              obtain ⟨a, vs, ev, r1, hs⟩ := lsOf_ok rs3 rv3 q
              exact ⟨a, vs, ev, r1, fun q hq => p am3 _ _ (Grow.upd hq) (rs3.upd hq) (VR.lstNew rs3 (hs.cutL l' u') hq)⟩
          cases rv3 with
          | str x =>
            simp only [slD] at p3
            by_cases hz : x.length ≤ sizeLine
            · rw [if_pos hz] at p3
              exact .inl ⟨x, rfl, hz, p3 am3 _ H3 .refl rs3 (.str _)⟩
            · rw [if_neg hz] at p3
              exact p3.elim
          | @tup a vs ds h1 h2 =>
            refine .inr (.inl ⟨a, vs, rfl, h1.seq, fun hw => ?_, fun hw q ob hq hd => ?_⟩)
            · refine p3 am3 _ H3 .refl rs3 ?_
              rw [cutL_all (by rw [h2.length]; exact hw)]
              exact .tup h1 h2
            · exact p3 am3 _ _ (Grow.upd hq) (rs3.upd hq) (VR.tupNew rs3 (h2.cutL l' u') hq hd)
          | lst _ _ _ => exact .inr (.inr (ls p3))
          | fls _ _ => exact .inr (.inr (ls p3))
          | ref _ => exact .inr (.inr (ls p3))
          | _ => exact p3.elim⟩⟩⟩
end
noncomputable def flatD : D → Bool
  | .non => true
  | .bl _ => true
  | .int _ => true
  | .str _ => true
  | _ => false
noncomputable def fEq : D → D → Bool
  | .non, .non => true
  | .bl a, .bl b => a == b
  | .bl a, .int b => (if a then 1 else 0) == b
  | .int a, .bl b => a == (if b then 1 else 0)
  | .int a, .int b => a == b
  | .str a, .str b => a == b
  | _, _ => false
noncomputable def inD (neg : Bool) (d o : D) (S : Sto) : Res D := match dcOf S o with
  | some kvs => match keyOf d with
    | some k => .ok (.bl (if neg = true then !(getK kvs k).isSome else (getK kvs k).isSome)) S
    | none => .bad
  | none => match o with
    | .str y => match d with
      | .str x => .ok (.bl (if neg = true then !(!(Builtin.Str.occurrences y x 0 y.length 1).isEmpty) else !(Builtin.Str.occurrences y x 0 y.length 1).isEmpty)) S
      | _ => .bad
    | .tup xs => if flatD d = true ∧ xs.all flatD = true then .ok (.bl (if neg = true then !(xs.any fun z => fEq z d) else xs.any fun z => fEq z d)) S else .bad
    | o => match lsOf S o with
      | some xs => if SeqAt.shaped d.py = true ∧ SeqAt.shaped (.list (pys xs)) = true then .ok (.bl (if neg = true then !((pys xs).any fun z => PyData.eqv z d.py) else (pys xs).any fun z => PyData.eqv z d.py)) S else .bad
      | none => .bad
section
variable {K : PySem.W.Frag} {cl : Str → Addr} {am : AM} {H : Hp} {S : Sto}
theorem flat_ok {d : D} {v : V} (h : VR K am H d v) (f : flatD d = true) : flatV v = true := by
  cases h <;> first | rfl | cases f
theorem flats_ok : ∀ {ds : List D} {vs : List V}, VRs K am H ds vs → ds.all flatD = true → vs.all flatV = true
  | _, _, .nil, _ => rfl
  | _, _, .cons h t, f => by
    rw [List.all_cons, Bool.and_eq_true] at f
    rw [List.all_cons, flat_ok h f.1, flats_ok t f.2]
    rfl
theorem fEq_ok {d e : D} {v u : V} (h : VR K am H d v) (h' : VR K am H e u) : fEq d e = eqV v u := by
  cases h <;> cases h' <;> rfl
theorem any_ok {d : D} {v : V} (h : VR K am H d v) : ∀ {ds : List D} {vs : List V}, VRs K am H ds vs → (ds.any fun z => fEq z d) = inV v vs
  | _, _, .nil => rfl
  | _, _, .cons h1 t => by
    have ih := any_ok h t
    unfold inV at ih ⊢
    rw [List.any_cons, List.any_cons, ih, fEq_ok h1 h]
theorem lsOf_py (r : RelS K cl am S H) {d : D} {v : V} (h : VR K am H d v) {xs : List D} (e : lsOf S d = some xs) (q : PyData.canLayAll0 (pys xs) = true) : Dp K H v (.list (pys xs)) := by
  obtain ⟨a, vs, ev, r1, hs⟩ := lsOf_ok r h e
  subst ev
  exact .lst r1 (hs.dp q)
end
section
variable {cl : Str → Addr} {W : WX} {X : Cx} {a b c : Expr} {es : List Expr} {f g h : Ev D} {fs : List (Ev D)} {pos p : Pos} {x : Str}
noncomputable def rKeyIn : R2 := fun y x H Q => ∃ a o, x = .ref a ∧ DGet H a y o ∧ Q (.bl o.isSome) H
noncomputable def rKeyNotIn : R2 := fun y x H Q => ∃ a o, x = .ref a ∧ DGet H a y o ∧ Q (.bl (!o.isSome)) H
theorem op_inK (hu : X.A.units + 1 < cLine) : OpR X (compareOp .In) rKeyIn := by
  intro pins s σ H y x v u Q I ry rx h
  obtain ⟨a, o, rfl, g, q⟩ := h
  cases rx
  exact d_in hu I g ry fun s3 I3 => ⟨.bl o.isSome, H, I3, rfl, q⟩
theorem op_notInK (hu : X.A.units + 1 < cLine) : OpR X (compareOp .NotIn) rKeyNotIn := by
  intro pins s σ H y x v u Q I ry rx h
  obtain ⟨a, o, rfl, g, q⟩ := h
  cases rx
  exact d_notIn hu I g ry fun s3 I3 => ⟨.bl (!o.isSome), H, I3, rfl, q⟩
theorem units65 {k : Nat} {A : Around} (r : Room k A) : A.units + 65 < cLine := by have := r.un; omega
noncomputable def rInA (K : PySem.W.Frag) : R2 := fun x y H Q => rKeyIn x y H Q ∨ (∃ i j, x = .str i ∧ y = .str j ∧ Q (.bl (!(Builtin.Str.occurrences j i 0 j.length 1).isEmpty)) H) ∨ rIn K false x y H Q ∨ rInD K x y H Q
noncomputable def rNotInA (K : PySem.W.Frag) : R2 := fun x y H Q => rKeyNotIn x y H Q ∨ (∃ i j, x = .str i ∧ y = .str j ∧ Q (.bl (!(!(Builtin.Str.occurrences j i 0 j.length 1).isEmpty))) H) ∨ rIn K true x y H Q ∨ rNotInD K x y H Q
theorem op_inA {k : Nat} (hr : Room k X.A) : OpR X (compareOp .In) (rInA X.K) := OpR.or (op_inK (hu_of hr)) (OpR.or op_in_str (OpR.or op_in_seq (op_inD (units65 hr))))
theorem op_notInA {k : Nat} (hr : Room k X.A) : OpR X (compareOp .NotIn) (rNotInA X.K) := OpR.or (op_notInK (hu_of hr)) (OpR.or op_notin_str (OpR.or op_notIn_seq (op_notInD (units65 hr))))
theorem ok_in (neg : Bool) : Ok2 X.K cl (fun x y H Q => if neg = true then rNotInA X.K x y H Q else rInA X.K x y H Q) (inD neg) := by
  intro W σ am S H d o v u Q rs h1 h2 p
  unfold inD at p
  cases q : dcOf S o with
  | some kvs =>
    rw [q] at p
    obtain ⟨a, vs, ev, r1, hk⟩ := dcOf_ok rs h2 q
    simp only at p
    cases q2 : keyOf d with
    | none => rw [q2] at p; exact p.elim
    | some k =>
      rw [q2] at p
      have eu := keyOf_ok h1 q2
      have e : (getK kvs k).isSome = (valV vs k).isSome := by
        rcases hk.get k with ⟨g1, g2⟩ | ⟨d', v', g1, g2, rv⟩
        · rw [g1, g2]
          rfl
        · rw [g1, g2]
          rfl
      have p' := p am _ H .refl rs (.bl _)
      rw [e] at p'
      cases neg with
      | true => exact .inl ⟨a, _, ev, .inl ⟨vs, k, .inl r1, eu, rfl⟩, p'⟩
      | false => exact .inl ⟨a, _, ev, .inl ⟨vs, k, .inl r1, eu, rfl⟩, p'⟩
  | none =>
    rw [q] at p
    have ls : Post X.K cl W σ (VR X.K) am H (match lsOf S o with
      | some xs => if SeqAt.shaped d.py = true ∧ SeqAt.shaped (.list (pys xs)) = true then .ok (.bl (if neg = true then !((pys xs).any fun z => PyData.eqv z d.py) else (pys xs).any fun z => PyData.eqv z d.py)) S else .bad
      | none => .bad) Q → if neg = true then rNotInA X.K v u H Q else rInA X.K v u H Q := fun p => by
      cases q3 : lsOf S o with
      | none => rw [q3] at p; exact p.elim
      | some xs =>
        rw [q3] at p
        simp only at p
        by_cases hc : SeqAt.shaped d.py = true ∧ SeqAt.shaped (.list (pys xs)) = true
        · rw [if_pos hc] at p
          have p' := p am _ H .refl rs (.bl _)
          have hd := h1.dp (SeqAt.canLay_of_shaped hc.1)
          have hl := lsOf_py rs h2 q3 (by simpa [PyData.canLay0] using SeqAt.canLay_of_shaped hc.2)
          cases neg with
          | true => exact .inr (.inr (.inr ⟨_, _, hd, hl, hc.1, hc.2, p'⟩))
          | false => exact .inr (.inr (.inr ⟨_, _, hd, hl, hc.1, hc.2, p'⟩))
        · rw [if_neg hc] at p
          exact p.elim
    cases h2 with
    | str y =>
      cases h1 with
      | str x =>
        have p' := p am _ H .refl rs (.bl _)
        cases neg with
        | true => exact .inr (.inl ⟨x, y, rfl, rfl, p'⟩)
        | false => exact .inr (.inl ⟨x, y, rfl, rfl, p'⟩)
      | _ => exact p.elim
    | @tup a vs xs t hs =>
      simp only at p
      by_cases hc : flatD d = true ∧ xs.all flatD = true
      · rw [if_pos hc] at p
        have p' := p am _ H .refl rs (.bl _)
        rw [any_ok h1 hs] at p'
        cases neg with
        | true => exact .inr (.inr (.inl ⟨a, vs, rfl, .inr t.seq, flat_ok h1 hc.1, flats_ok hs hc.2, p'⟩))
        | false => exact .inr (.inr (.inl ⟨a, vs, rfl, .inr t.seq, flat_ok h1 hc.1, flats_ok hs hc.2, p'⟩))
      · rw [if_neg hc] at p
        exact p.elim
    | lst h1 h2 h3 => exact ls p
    | fls h1 h3 => exact ls p
    | ref h1 => exact ls p
    | _ => exact p.elim
theorem qt_in {k : Nat} (hr : Room k X.A) (ha : QE cl W X a f) (hb : QE cl W X b g) (hm : behindInMarks .In b = false := by rfl) : QT cl W X (.Compare a [.In] [b] pos) (eTB (e2 (inD false) f g)) := qt_cmp (op_inA hr) (ok_in false) ha hb hm
theorem qt_notIn {k : Nat} (hr : Room k X.A) (ha : QE cl W X a f) (hb : QE cl W X b g) (hm : behindInMarks .NotIn b = false := by rfl) : QT cl W X (.Compare a [.NotIn] [b] pos) (eTB (e2 (inD true) f g)) := qt_cmp (op_notInA hr) (ok_in true) ha hb hm
end
end Pu
set_option Elab.async false
set_option linter.all false
set_option maxRecDepth 100000
namespace Pu
open PySem PySem.Spec PyProof.Rows L2
/-- what is written into an object of the store -/
noncomputable def stD (o i v : D) (S : Sto) : Option Sto := match o with
  | .ref k => match S[k]? with
    | some (.lst xs) => match i with
      | .int j => (ixN xs.length j).map fun n => S.set k (.lst (xs.set n v))
      | _ => none
    | some (.dct kvs) => (keyOf i).bind fun q => if kvs.length < sizeLine then some (S.set k (.dct (putD kvs q v))) else none
    | _ => none
  | _ => none
/-- o[i] = v -/
noncomputable def sSt (f fo fi : Ev D) : Stm := fun e S => (f e S).stm e fun v S => (fo e S).stm e fun o S => (fi e S).stm e fun i S => match stD o i v S with
  | some S' => .next e S'
  | none => .bad
noncomputable def rSetA : TSet := fun o i v H Q => rSetL o i v H Q ∨ ∃ a H', o = .ref a ∧ DPut H a i v H' ∧ Q H'
section
variable {cl : Str → Addr} {W : WX} {X : Cx} {a b c : Expr} {es : List Expr} {f g h : Ev D} {fs : List (Ev D)} {pos p tpos : Pos} {x : Str}
theorem set_A (hu : X.A.units + 1 < cLine) : PSet X rSetA := by
  intro pins s σ H o i v ov iv u Q I ro ri rv h
  rcases h with h | ⟨a, H', rfl, g, q⟩
  · exact set_list pins s σ H o i v ov iv u Q I ro ri rv h
  · cases ro
    exact d_setItem hu I g ri rv fun s4 I4 => ⟨H', I4, q⟩
theorem st_ok {am : AM} {S S' : Sto} {H : Hp} {o i v : D} {ov iv vv : V} {Q : Hp → Prop} (rs : RelS X.K cl am S H) (h1 : VR X.K am H o ov) (h2 : VR X.K am H i iv) (h3 : VR X.K am H v vv) (e : stD o i v S = some S')
    (q : ∀ H', Grow am am H H' → RelS X.K cl am S' H' → Q H') : rSetA ov iv vv H Q := by
  cases h1 with
  | @ref k a hk =>
    simp only [stD] at e
    cases e1 : S[k]? with
    | none => rw [e1] at e; cases e
    | some ob =>
      rw [e1] at e
      cases ob with
      | lst xs =>
        obtain ⟨vs, r1, r2⟩ := rs.ob k _ a e1 hk
        cases h2 with
        | int j =>
          simp only at e
          cases e2 : ixN xs.length j with
          | none => rw [e2] at e; cases e
          | some n =>
            rw [e2] at e
            cases e
            have hm : a ∈ am.ad := List.mem_of_getElem? hk
            exact .inl ⟨a, vs, j, n, rfl, rfl, r1, by rw [← r2.length]; exact e2, q _ (Grow.put hm) (rs.put hk ⟨_, upd_same, (r2.setA n h3).mono (Grow.put hm)⟩)⟩
        | _ => cases e
      | dct kvs =>
        obtain ⟨vs, r1, r2⟩ := rs.ob k _ a e1 hk
        simp only at e
        cases e2 : keyOf i with
        | none => rw [e2] at e; cases e
        | some ky =>
          rw [e2] at e
          simp only [Option.bind_some] at e
          by_cases hz : kvs.length < sizeLine
          · rw [if_pos hz] at e
            cases e
            have hm : a ∈ am.ad := List.mem_of_getElem? hk
            exact .inr ⟨a, _, rfl, .inl ⟨vs, ky, r1, keyOf_ok h2 e2, by rw [← r2.length]; exact hz, rfl⟩, q _ (Grow.put hm) (rs.put hk ⟨_, upd_same, (r2.put ky h3).mono (Grow.put hm)⟩)⟩
          · rw [if_neg hz] at e
            cases e
      | ins c fs => cases e
  | _ => cases e
theorem qs_st {k : Nat} (hr : Room k X.A) (ha : QE cl W X a f) (hb : QE cl W X b g) (hc : QE cl W X c h) (hs : swapsWithSole [.Subscript b c tpos] a pos.line X.env = pure false := by rfl) (hw : swappedStores [.Subscript b c tpos] a X.env = pure none := by rfl)
    (h1 : (assignEach [.Subscript b c tpos] X.env).map (·.2) = [assign (.Subscript b c tpos) X.env] := by rfl)
    (h2 : ∀ v, assign (.Subscript b c tpos) X.env v = (do
      let ov ← holding [v] (eval b X.env)
      let iv ← holding [v, ov] (eval c X.env)
      standAt tpos
      holding [v, ov, iv] (setItem ov iv v)
      release [v, ov, iv] []) := by intro _; rfl) : QS cl W X (.Assign [.Subscript b c tpos] a pos) (sSt f g h) :=
  (ps_asg ha (pg_sub hb hc (set_A (hu_of hr)) h2) hs hw h1).imp fun E σ H ⟨am, e, S, rs, re, p⟩ =>
    ⟨am, e, S, rs, re, (PostS.step re p).imp fun x H1 ⟨am1, S1, d1, _, g1, rs1, rv1, p1⟩ =>
      ⟨am1, e, S1, rs1, re.mono g1, (PostS.step (re.mono g1) p1).imp fun y H2 ⟨am2, S2, d2, _, g2, rs2, rv2, p2⟩ =>
        ⟨am2, e, S2, rs2, (re.mono g1).mono g2, (PostS.step ((re.mono g1).mono g2) p2).imp fun z H3 ⟨am3, S3, d3, _, g3, rs3, rv3, p3⟩ => by
          cases q : stD d2 d3 d1 S3 with
          | none => simp only [q] at p3; exact p3.elim
          | some S' =>
            simp only [q] at p3
            exact st_ok rs3 (rv2.mono g3) rv3 ((rv1.mono g2).mono g3) q fun H' g4 rs4 => p3 am3 σ H' g4 rs4 ((((re.mono g1).mono g2).mono g3).mono g4)⟩⟩⟩
/-- name op= e -/
noncomputable def sAug (op : D → D → Sto → Res D) (i : Nat) (f : Ev D) : Stm := fun e S => (eVar i e S).stm e fun x S => (f e S).stm e fun y S => (op x y S).stm e fun z S => .next (e.set i (some z)) S
noncomputable def OkM (K : PySem.W.Frag) (cl : Str → Addr) (T : String) (r : V → List V → Hp → VK → Prop) (op : D → List D → Sto → Res D) : Prop :=
  ∀ (W : WX) (σ : L2.St) (am : AM) (S : Sto) (H : Hp) (o : D) (ds : List D) (x : V) (vs : List V) (Q : VK), RelS K cl am S H → VR K am H o x → VRs K am H ds vs → Post K cl W σ (VR K) am H (op o ds S) Q → r x vs H Q
/-- of the receiver, ahead of the arguments -/
noncomputable def isT (T : String) (o : D) (S : Sto) : Prop := match o with
  | .str _ => T = "str"
  | .int _ => T = "int"
  | o => (T = "list" ∧ (lsOf S o).isSome = true) ∨ (T = "dict" ∧ (dcOf S o).isSome = true)
noncomputable instance (T : String) (o : D) (S : Sto) : Decidable (isT T o S) := by unfold isT; cases o <;> infer_instance
theorem isT_ok {K : PySem.W.Frag} {am : AM} {S : Sto} {H : Hp} {T : String} {o : D} {x : V} (rs : RelS K cl am S H) (h : VR K am H o x) (t : isT T o S) : tyV K T x H := by
  have oth : ((T = "list" ∧ (lsOf S o).isSome = true) ∨ (T = "dict" ∧ (dcOf S o).isSome = true)) → tyV K T x H := fun t => by
    rcases t with ⟨e, t⟩ | ⟨e, t⟩
    · obtain ⟨xs, q⟩ := Option.isSome_iff_exists.mp t
      obtain ⟨a, vs, ev, r1, _⟩ := lsOf_ok rs h q
      subst ev
      exact .inl ⟨e, vs, r1⟩
    · obtain ⟨xs, q⟩ := Option.isSome_iff_exists.mp t
      obtain ⟨a, vs, ev, r1, _⟩ := dcOf_ok rs h q
      subst ev
      exact .inr (.inr (.inl ⟨e, .inl ⟨vs, r1⟩⟩))
  cases h with
  | str x => exact t
  | int i => exact t
  | non => rcases t with ⟨_, t⟩ | ⟨_, t⟩ <;> cases t
  | bl b => rcases t with ⟨_, t⟩ | ⟨_, t⟩ <;> cases t
  | tup _ _ => rcases t with ⟨_, t⟩ | ⟨_, t⟩ <;> cases t
  | _ => exact oth t
noncomputable def eM (T : String) (op : D → List D → Sto → Res D) (fo : Ev D) (fs : List (Ev D)) : Ev D := fun e S => (fo e S).bind fun o S => if isT T o S then (eArgs fs e S).bind fun ds S => op o ds S else .bad
variable {o : Expr} {name : Str} {apos cpos : Pos} {T id : String} {r : V → List V → Hp → VK → Prop} {op : D → List D → Sto → Res D}
theorem qe_bm (pa : PlainAttrs T) (slot : Slot T name id) (hty : typeOf (.builtin id) = pure (.type "method_descriptor")) (hm : MtR X id r) (ok : OkM X.K cl T r op) (ho : QE cl W X o g) (ha : QA cl W X (a :: es) (eArgs fs))
    (hbase : attributeBase o name X.env (eval o X.env) = eval o X.env := by rfl)
    (hfew : ((backTo cpos (starEach (a :: es) X.env)).all (fun x => !x.1) && (backToKw cpos (keywordEach [] X.env)).all (fun x => x.1.isSome)
      && decide ((a :: es).length + ([] : List Keyword).length + (if ([] : List Keyword).isEmpty then 0 else 1) < 30)) = true := by rfl)
    (hline : (apos.endLine == cpos.line) = true := by rfl) (hs : starEach (a :: es) X.env = (false, eval a X.env) :: starEach es X.env := by rfl) (hplain : (backTo cpos (starEach es X.env)).any (·.1) = false := by rfl) :
    QE cl W X (.Call (.Attribute o name apos) (a :: es) [] cpos) (eM T op g fs) := (pe_bm pa slot hty hm ho ha hbase hfew hline hs hplain).imp fun σ H Q ⟨am, e, S, rs, re, p⟩ =>
  ⟨am, e, S, rs, re, (Post.step p).imp fun x H1 ⟨am1, S1, d1, _, g1, rs1, rv1, p1⟩ => by
    by_cases ht : isT T d1 S1
    · rw [if_pos ht] at p1
      exact ⟨isT_ok rs1 rv1 ht, am1, e, S1, rs1, re.mono g1, (Post.step p1).imp fun vs H2 ⟨am2, S2, ds, _, g2, rs2, rvs, p2⟩ => ok W σ am2 S2 H2 d1 ds x vs Q rs2 (rv1.mono g2) rvs p2⟩
    · rw [if_neg ht] at p1
      exact p1.elim⟩
/-- xs.append(y) -/
noncomputable def appD (o : D) (ds : List D) (S : Sto) : Res D := match o, ds with
  | .ref k, [y] => match S[k]? with
    | some (.lst xs) => if xs.length < sizeLine then .ok .non (S.set k (.lst (xs ++ [y]))) else .bad
    | _ => .bad
  | _, _ => .bad
theorem ok_app : OkM X.K cl "list" rAppend appD := by
  intro W σ am S H o ds x vs Q rs h1 h2 p
  cases h1 with
  | @ref k a hk =>
    cases h2 with
    | nil => exact p.elim
    | cons r1 r2 =>
      cases r2 with
      | cons _ _ => exact p.elim
      | nil =>
        simp only [appD] at p
        cases e1 : S[k]? with
        | none => rw [e1] at p; exact p.elim
        | some ob =>
          rw [e1] at p
          cases ob with
          | lst xs =>
            obtain ⟨us, q1, q2⟩ := rs.ob k _ a e1 hk
            simp only at p
            by_cases hz : xs.length < sizeLine
            · rw [if_pos hz] at p
              have hm : a ∈ am.ad := List.mem_of_getElem? hk
              exact ⟨a, us, _, rfl, rfl, q1, by rw [← q2.length]; exact hz, p am _ _ (Grow.put hm) (rs.put hk ⟨_, upd_same, (q2.append (.cons r1 .nil)).mono (Grow.put hm)⟩) .non⟩
            · rw [if_neg hz] at p
              exact p.elim
          | _ => exact p.elim
  | _ => exact p.elim
theorem qe_append (ho : QE cl W X o g) (ha : QE cl W X a f) (h0 : starEach [a] X.env = (false, eval a X.env) :: starEach [] X.env := by rfl)
    (hbase : attributeBase o "append" X.env (eval o X.env) = eval o X.env := by rfl)
    (hfew : ((backTo cpos (starEach [a] X.env)).all (fun x => !x.1) && (backToKw cpos (keywordEach [] X.env)).all (fun x => x.1.isSome)
      && decide (([a] : List Expr).length + ([] : List Keyword).length + (if ([] : List Keyword).isEmpty then 0 else 1) < 30)) = true := by rfl)
    (hline : (apos.endLine == cpos.line) = true := by rfl) (hplain : (backTo cpos (starEach [] X.env)).any (·.1) = false := by rfl) :
    QE cl W X (.Call (.Attribute o "append" apos) [a] [] cpos) (eM "list" appD g [f]) := qe_bm PySem.F.plainAttrs_list PySem.F.slot_list_append PySem.F.type_list_append mt_append ok_app ho (qa_cons ha qa_nil h0) hbase hfew hline h0 hplain
noncomputable def lenD (ds : List D) (S : Sto) : Res D := match ds with
  | [d] => match dcOf S d with
    | some kvs => match d with
      | .fls _ => .bad
      | _ => .ok (.int kvs.length) S
    | none => match d with
      | .str x => if x.length ≤ sizeLine then .ok (.int x.length) S else .bad
      | d => match sqOf S d with
        | some xs => .ok (.int xs.length) S
        | none => .bad
  | _ => .bad
theorem call_lenA : CallR X (.builtin "len") (fun xs H Q => (∃ x n, xs = [x] ∧ LenV X.K x H n ∧ Q (.int n) H) ∨ ∃ a kvs, xs = [V.ref a] ∧ H a = some (.dK kvs) ∧ Q (.int kvs.length) H) := CallR.or call_len call_lenD
theorem ok_len : OkN X.K cl (fun xs H Q => (∃ x n, xs = [x] ∧ LenV X.K x H n ∧ Q (.int n) H) ∨ ∃ a kvs, xs = [V.ref a] ∧ H a = some (.dK kvs) ∧ Q (.int kvs.length) H) lenD := by
  intro W σ am S H ds vs Q rs h p
  cases h with
  | nil => exact p.elim
  | @cons d v ds vs r1 r2 =>
    cases r2 with
    | cons _ _ => exact p.elim
    | nil =>
      simp only [lenD] at p
      cases q : dcOf S d with
      | some kvs =>
        rw [q] at p
        obtain ⟨a, us, ev, q1, q2⟩ := dcOf_ok rs r1 q
        subst ev
        refine .inr ⟨a, us, rfl, q1, ?_⟩
        rw [← q2.length]
        cases r1 with
        | fls _ _ => cases q
        | _ => exact p am _ H .refl rs (.int _)
      | none =>
        rw [q] at p
        have sq : Post X.K cl W σ (VR X.K) am H (match sqOf S d with | some xs => .ok (.int xs.length) S | none => .bad) Q → ∃ x n, [v] = [x] ∧ LenV X.K x H n ∧ Q (.int n) H := fun p => by
          cases q3 : sqOf S d with
          | none => rw [q3] at p; exact p.elim
          | some xs =>
            rw [q3] at p
            obtain ⟨a, us, ev, hq, hs⟩ := sqOf_ok rs r1 q3
            subst ev
            refine ⟨_, xs.length, rfl, ?_, p am _ H .refl rs (.int _)⟩
            rcases hq with hq | hq
            · exact .inl ⟨us, hq, hs.length⟩
            · exact .inr ⟨us, hq, hs.length⟩
        cases r1 with
        | str x =>
          simp only at p
          by_cases hz : x.length ≤ sizeLine
          · rw [if_pos hz] at p
            exact .inl ⟨_, x.length, rfl, ⟨hz, rfl⟩, p am _ H .refl rs (.int _)⟩
          · rw [if_neg hz] at p
            exact p.elim
        | _ => exact .inl (sq p)
/-- int of a truth or a number -/
noncomputable def int1D (ds : List D) (S : Sto) : Res D := match ds with
  | [.int i] => .ok (.int i) S
  | [.bl b] => .ok (.int (if b then 1 else 0)) S
  | _ => .bad
theorem ok_int1 : OkN X.K cl (fun xs H Q => (∃ i, xs = [.int i] ∧ Q (.int i) H) ∨ ∃ k, xs = [.bl k] ∧ Q (.int (if k then 1 else 0)) H) int1D := by
  intro W σ am S H ds vs Q rs h p
  cases h with
  | nil => exact p.elim
  | cons r1 r2 =>
    cases r2 with
    | cons _ _ => cases r1 <;> exact p.elim
    | nil =>
      cases r1 with
      | int i => exact .inl ⟨i, rfl, p am _ H .refl rs (.int _)⟩
      | bl b => exact .inr ⟨b, rfl, p am _ H .refl rs (.int _)⟩
      | _ => exact p.elim
/-- tuple of a list or a tuple -/
noncomputable def tupD (ds : List D) (S : Sto) : Res D := match ds with
  | [d] => match sqOf S d with
    | some xs => .ok (.tup xs) S
    | none => .bad
  | _ => .bad
/-- all, any of a list of truths -/
noncomputable def bools : List D → Option (List Bool)
  | [] => some []
  | .bl b :: xs => (bools xs).map (b :: ·)
  | _ :: _ => none
noncomputable def intsL : List D → Option (List Int)
  | [] => some []
  | .int b :: xs => (intsL xs).map (b :: ·)
  | _ :: _ => none
@[simp] theorem bools_map (bs : List Bool) : bools (bs.map D.bl) = some bs := by
  induction bs with
  | nil => rfl
  | cons b bs ih => rw [List.map_cons]; simp only [bools, ih, Option.map_some]
@[simp] theorem ints_map (bs : List Int) : intsL (bs.map D.int) = some bs := by
  induction bs with
  | nil => rfl
  | cons b bs ih => rw [List.map_cons]; simp only [intsL, ih, Option.map_some]
theorem bools_ok {K : PySem.W.Frag} {am : AM} {H : Hp} : ∀ {ds : List D} {vs : List V} {bs : List Bool}, VRs K am H ds vs → bools ds = some bs → vs = bs.map V.bl
  | _, _, _, .nil, e => by cases e; rfl
  | _, _, _, .cons (ds := ds) h t, e => by
    cases h with
    | bl b =>
      simp only [bools] at e
      cases q : bools ds with
      | none => rw [q] at e; cases e
      | some bs =>
        rw [q] at e
        cases e
        rw [List.map_cons, bools_ok t q]
    | _ => cases e
theorem ints_ok {K : PySem.W.Frag} {am : AM} {H : Hp} : ∀ {ds : List D} {vs : List V} {bs : List Int}, VRs K am H ds vs → intsL ds = some bs → vs = bs.map V.int
  | _, _, _, .nil, e => by cases e; rfl
  | _, _, _, .cons (ds := ds) h t, e => by
    cases h with
    | int b =>
      simp only [intsL] at e
      cases q : intsL ds with
      | none => rw [q] at e; cases e
      | some bs =>
        rw [q] at e
        cases e
        rw [List.map_cons, ints_ok t q]
    | _ => cases e
noncomputable def boolsD (f : List Bool → Bool) (ds : List D) (S : Sto) : Res D := match ds with
  | [d] => match (lsOf S d).bind bools with
    | some bs => .ok (.bl (f bs)) S
    | none => .bad
  | _ => .bad
theorem ok_bools {fb : List Bool → Bool} {r : List V → Hp → VK → Prop} (hr : ∀ a bs H Q, SqL X.K H a (bs.map V.bl) → Q (.bl (fb bs)) H → r [.ref a] H Q) : OkN X.K cl r (boolsD fb) := by
  intro W σ am S H ds vs Q rs h p
  cases h with
  | nil => exact p.elim
  | @cons d v ds vs r1 r2 =>
    cases r2 with
    | cons _ _ => exact p.elim
    | nil =>
      simp only [boolsD] at p
      cases q : lsOf S d with
      | none => simp only [q, Option.bind_none] at p; exact p.elim
      | some xs =>
        simp only [q, Option.bind_some] at p
        cases q2 : bools xs with
        | none => rw [q2] at p; exact p.elim
        | some bs =>
          rw [q2] at p
          obtain ⟨a, us, ev, q1, q3⟩ := lsOf_ok rs r1 q
          subst ev
          have e := bools_ok q3 q2
          subst e
          exact hr a bs H Q q1 (p am _ H .refl rs (.bl _))
theorem ok_all : OkN X.K cl (rAll X.K) (boolsD fun bs => bs.all _root_.id) := ok_bools fun a bs H Q h q => ⟨a, bs, rfl, h, q⟩
/-- sum of a list of whole numbers -/
noncomputable def intsD (f : List Int → D) (ds : List D) (S : Sto) : Res D := match ds with
  | [d] => match (lsOf S d).bind intsL with
    | some bs => .ok (f bs) S
    | none => .bad
  | _ => .bad
theorem ok_sum : OkN X.K cl (rSum X.K) (intsD fun ns => .int ns.sum) := by
  intro W σ am S H ds vs Q rs h p
  cases h with
  | nil => exact p.elim
  | @cons d v ds vs r1 r2 =>
    cases r2 with
    | cons _ _ => exact p.elim
    | nil =>
      simp only [intsD] at p
      cases q : lsOf S d with
      | none => simp only [q, Option.bind_none] at p; exact p.elim
      | some xs =>
        simp only [q, Option.bind_some] at p
        cases q2 : intsL xs with
        | none => rw [q2] at p; exact p.elim
        | some bs =>
          rw [q2] at p
          obtain ⟨a, us, ev, q1, q3⟩ := lsOf_ok rs r1 q
          subst ev
          have e := ints_ok q3 q2
          subst e
          exact ⟨a, bs, rfl, q1, p am _ H .refl rs (.int _)⟩
/-- of two whole numbers -/
noncomputable def ii2D (f : Int → Int → Int) (ds : List D) (S : Sto) : Res D := match ds with
  | [.int i, .int j] => .ok (.int (f i j)) S
  | _ => .bad
theorem ok_ii2 {fi : Int → Int → Int} {r : List V → Hp → VK → Prop} (hr : ∀ i j H Q, Q (.int (fi i j)) H → r [.int i, .int j] H Q) : OkN X.K cl r (ii2D fi) := by
  intro W σ am S H ds vs Q rs h p
  cases h with
  | nil => exact p.elim
  | cons r1 r2 =>
    cases r2 with
    | nil => cases r1 <;> exact p.elim
    | cons r2 r3 =>
      cases r3 with
      | nil =>
        cases r1 with
        | int i =>
          cases r2 with
          | int j => exact hr i j H Q (p am _ H .refl rs (.int _))
          | _ => exact p.elim
        | _ => cases r2 <;> exact p.elim
      | cons _ _ => cases r1 <;> cases r2 <;> exact p.elim
noncomputable def minI (i j : Int) : Int := if j < i then j else i
/-- list of a list or a tuple: a new list -/
noncomputable def nListOf (f : Ev D) : Ev DO := fun e S => (eArgs [f] e S).bind fun ds S => match ds with
  | [d] => match sqOf S d with
    | some xs => .ok (.lst xs) S
    | none => .bad
  | _ => .bad
variable (hm : X.mg x = none)
/-- calls by name -/
theorem qe_len (hg : Gl X "len") (hm : X.mg "len" = none) (ha : QA cl W X [a] (eArgs fs)) (he : starEach [a] X.env = (false, eval a X.env) :: starEach [] X.env := by rfl) (hpl : (backTo pos (starEach [] X.env)).any (·.1) = false := by rfl) : QE cl W X (.Call (.Name "len" p) [a] [] pos) (eCall lenD fs) := qe_callB call_lenA ok_len hg hm PySem.boot_len ha (by decide) (by decide) he hpl
theorem qe_intOf (hg : Gl X "int") (hm : X.mg "int" = none) (ha : QA cl W X [a] (eArgs fs)) (he : starEach [a] X.env = (false, eval a X.env) :: starEach [] X.env := by rfl) (hpl : (backTo pos (starEach [] X.env)).any (·.1) = false := by rfl) : QE cl W X (.Call (.Name "int" p) [a] [] pos) (eCall int1D fs) := qe_callT call_int1 ok_int1 hg hm (by decide +kernel) ha (by decide) (by decide) he hpl
theorem qe_all (hc : X.calm = true) (hg : Gl X "all") (hm : X.mg "all" = none) (ha : QA cl W X [a] (eArgs fs)) (he : starEach [a] X.env = (false, eval a X.env) :: starEach [] X.env := by rfl) (hpl : (backTo pos (starEach [] X.env)).any (·.1) = false := by rfl) : QE cl W X (.Call (.Name "all" p) [a] [] pos) (eCall (boolsD fun bs => bs.all _root_.id) fs) := qe_callB (cr_all hc) ok_all hg hm (by decide +kernel) ha (by decide) (by decide) he hpl
theorem qe_sum (hc : X.calm = true) (hg : Gl X "sum") (hm : X.mg "sum" = none) (ha : QA cl W X [a] (eArgs fs)) (he : starEach [a] X.env = (false, eval a X.env) :: starEach [] X.env := by rfl) (hpl : (backTo pos (starEach [] X.env)).any (·.1) = false := by rfl) : QE cl W X (.Call (.Name "sum" p) [a] [] pos) (eCall (intsD fun ns => .int ns.sum) fs) := qe_callB (cr_sum hc) ok_sum hg hm (by decide +kernel) ha (by decide) (by decide) he hpl
theorem qe_min2 (hc : X.calm = true) (hg : Gl X "min") (hm : X.mg "min" = none) (ha : QA cl W X [a, b] (eArgs fs)) (he : starEach [a, b] X.env = (false, eval a X.env) :: starEach [b] X.env := by rfl) (hpl : (backTo pos (starEach [b] X.env)).any (·.1) = false := by rfl) : QE cl W X (.Call (.Name "min" p) [a, b] [] pos) (eCall (ii2D minI) fs) := qe_callB (call_min2 hc) (ok_ii2 fun i j H Q q => ⟨i, j, rfl, q⟩) hg hm (by decide +kernel) ha (by decide) (by decide) he hpl
theorem qn_list (hg : Gl X "list") (hm : X.mg "list" = none) (ha : QE cl W X a f) (h0 : starEach [a] X.env = (false, eval a X.env) :: starEach [] X.env := by rfl) (hpl : (backTo pos (starEach [] X.env)).any (·.1) = false := by rfl) : QN cl W X (.Call (.Name "list" p) [a] [] pos) (nListOf f) :=
  (pe_callTy call_list_of hg hm (by decide +kernel) (qa_cons ha qa_nil h0) (by decide) (by decide) h0 hpl).imp fun σ H Q ⟨am, e, S, rs, re, p⟩ =>
    ⟨am, e, S, rs, re, (PostN.step p).imp fun xs H1 ⟨am1, S1, ds, ee, g1, rs1, rvs, p1⟩ => by
      cases rvs with
      | nil => exact p1.elim
      | @cons d v ds vs r1 r2 =>
        cases r2 with
        | cons _ _ => exact p1.elim
        | nil =>
          simp only at p1
          cases q : sqOf S1 d with
          | none => rw [q] at p1; exact p1.elim
          | some ys =>
            rw [q] at p1
            obtain ⟨a, us, ev, q1, q2⟩ := sqOf_ok rs1 r1 q
            subst ev
            exact ⟨a, us, rfl, q1, fun l hl => PostN.laid p1 g1 rs1 hl ⟨us, upd_same, q2.mono (Grow.resv hl)⟩⟩⟩
end
section
variable {K : PySem.W.Frag} {cl : Str → Addr}
theorem law_sp {F : List D → Sto → Res D} (h : ∀ ns : List Int, ns.length ≤ 63 → ∃ S, F [.fls (ns.map D.int)] [] = .ok (.bl true) S) (H : Hp) (a : Addr) (ns : List Int) (hl : ns.length ≤ 63) (hs : SqL K H a (ns.map V.int)) :
    SpD K cl 1 F [.ref a] H (fun v _ => v = .bl true) (fun _ _ _ => False) := by
  obtain ⟨S, e⟩ := h ns hl
  refine ⟨⟨[], [], fun _ h => h⟩, [.fls (ns.map D.int)], [], rfl, ⟨rfl, .nil, fun k o a h => by simp at h, fun a h => by simp at h⟩, .cons (.fls (vs := ns.map V.int) ?_ ?_) .nil, ?_⟩
  · rcases hs with hs | hs
    · exact .inl ⟨hs, by simp⟩
    · exact .inr hs
  · clear e hl hs h
    induction ns with
    | nil => exact .nil
    | cons n ns ih => exact .cons (.int n) ih
  · rw [e]
    intro am' v H' g rs rv
    cases rv
    rfl
theorem cx_no {P : Program} {w : World} {o : List PySem.Env} {H : Hp} {s : Shared} {e : Value} {s' : Shared} (h : L2N.CX P w o H s (fun _ _ _ => False) e s') : False := by
  obtain ⟨_, _, _, _, _, _, _, _, _, _, _, _, z⟩ := h
  exact z
end
end Pu
set_option Elab.async false
set_option linter.all false
set_option maxRecDepth 100000
namespace Pu
open PySem PySem.Spec PyProof.Rows L2
section
variable {α : Type} {e : En} {S : Sto} {f g h : Ev D} {fs : List (Ev D)} {a b c : Stm} {s t : Ev Bool}
@[simp] theorem ap_C {d : D} : eC d e S = .ok d S := id rfl
theorem ap_Var {i : Nat} {d : D} (h : e[i]? = some (some d)) : eVar i e S = .ok d S := by simp [eVar, h]
@[simp] theorem ap_Var0 {d : D} {r : En} : eVar 0 (some d :: r) S = .ok d S := id rfl
@[simp] theorem ap_VarS {i : Nat} {x : Option D} {r : En} : eVar (i + 1) (x :: r) S = eVar i r S := by simp [eVar]
@[simp] theorem ap_1 {o : D → Sto → Res D} : e1 o f e S = (f e S).bind fun x S => o x S := id rfl
@[simp] theorem ap_2 {o : D → D → Sto → Res D} : e2 o f g e S = (f e S).bind fun x S => (g e S).bind fun y S => o x y S := id rfl
@[simp] theorem ap_TB : eTB f e S = (f e S).bind toB := id rfl
@[simp] theorem ap_Ch {o o' : D → D → Sto → Res D} : eCh o o' f g h e S = (f e S).bind fun x S => (g e S).bind fun y S => (o x y S).bind fun z S => (toB z S).bind fun k S => if k = true then (h e S).bind fun w S => o' y w S else .ok (.bl false) S := id rfl
@[simp] theorem ap_tAnd : tAndD s t e S = (s e S).bind fun b S => if b = true then t e S else .ok false S := id rfl
@[simp] theorem ap_tOr : tOrD s t e S = (s e S).bind fun b S => if b = true then .ok true S else t e S := id rfl
@[simp] theorem ap_tNot : tNotD s e S = (s e S).bind fun b S => .ok (!b) S := id rfl
@[simp] theorem ap_eAnd : eAndD f g e S = (f e S).bind fun d S => (toB d S).bind fun b S => if b = true then g e S else .ok (.bl false) S := id rfl
@[simp] theorem ap_eOr : eOrD f g e S = (f e S).bind fun d S => (toB d S).bind fun b S => if b = true then .ok (.bl true) S else g e S := id rfl
@[simp] theorem ap_eNot : eNotD f e S = (f e S).bind fun d S => (toB d S).bind fun b S => .ok (.bl (!b)) S := id rfl
@[simp] theorem ap_eIf : eIf t f g e S = (t e S).bind fun b S => if b = true then f e S else g e S := id rfl
@[simp] theorem ap_Tr : eTr f e S = (f e S).bind truD := id rfl
@[simp] theorem ap_Args0 : eArgs [] e S = .ok [] S := id rfl
@[simp] theorem ap_Args : eArgs (f :: fs) e S = (f e S).bind fun x S => (eArgs fs e S).bind fun xs S => .ok (x :: xs) S := id rfl
@[simp] theorem ap_Tup : eTup fs e S = (eArgs fs e S).bind fun xs S => .ok (.tup xs) S := id rfl
@[simp] theorem ap_Call {op : List D → Sto → Res D} : eCall op fs e S = (eArgs fs e S).bind op := id rfl
@[simp] theorem ap_Fn {op : List D → Sto → Res D} : eFn op fs e S = (eArgs fs e S).bind op := id rfl
@[simp] theorem ap_nLst : nLst fs e S = (eArgs fs e S).bind fun xs S => .ok (.lst xs) S := id rfl
@[simp] theorem ap_nDct0 : nDct0 e S = .ok (.dct []) S := id rfl
@[simp] theorem ap_Ano {n : Ev DO} : eAno n e S = (n e S).bind anoD := id rfl
@[simp] theorem ap_New {n : Ev DO} : eNew n e S = (n e S).bind fun o S => .ok (.ref S.length) (S ++ [o]) := id rfl
@[simp] theorem ap_M {T : String} {op : D → List D → Sto → Res D} : eM T op f fs e S = (f e S).bind fun o S => if isT T o S then (eArgs fs e S).bind fun ds S => op o ds S else .bad := id rfl
@[simp] theorem ap_Sl {p q : Ev (Option Int)} : eSl f p q e S = (f e S).bind fun d S => (p e S).bind fun lo S => (q e S).bind fun hi S => slD d lo hi S := id rfl
@[simp] theorem ap_pN : pN e S = .ok none S := id rfl
@[simp] theorem ap_pE : pE f e S = (f e S).bind fun d S => match d with
  | .int i => .ok (some i) S
  | _ => .bad := rfl
@[simp] theorem ap_yes : tYesD e S = .ok true S := id rfl
@[simp] theorem ap_Set {i : Nat} : sSet i f e S = (f e S).stm e fun d S => .next (e.set i (some d)) S := id rfl
@[simp] theorem ap_Ret : sRet f e S = (f e S).stm e fun d S => .ret d S := id rfl
@[simp] theorem ap_Expr : sExpr f e S = (f e S).stm e fun _ S => .next e S := id rfl
@[simp] theorem ap_Next : sNext e S = .next e S := id rfl
@[simp] theorem ap_Brk : sBrk e S = .brk e S := id rfl
@[simp] theorem ap_Seq : sSeq a b e S = (a e S).seq b := id rfl
@[simp] theorem ap_If : sIf t a b e S = (t e S).stm e fun k S => if k = true then a e S else b e S := id rfl
@[simp] theorem ap_St : sSt f g h e S = (f e S).stm e fun v S => (g e S).stm e fun o S => (h e S).stm e fun i S => match stD o i v S with
  | some S' => .next e S'
  | none => .bad := rfl
@[simp] theorem ap_Asg {tg : Tg} : sAsg tg f e S = (f e S).stm e fun d S => match bindT tg d e with
  | some e' => .next e' S
  | none => .bad := rfl
@[simp] theorem ap_Aug {op : D → D → Sto → Res D} {i : Nat} : sAug op i f e S = (eVar i e S).stm e fun x S => (f e S).stm e fun y S => (op x y S).stm e fun z S => .next (e.set i (some z)) S := id rfl
noncomputable def fgtR (vs : List Nat) (r : SRes) : SRes := match r with
  | .next e S => .next (wipeE e vs) S
  | r => r
@[simp] theorem ap_Fgt {vs : List Nat} : sFgt vs a e S = fgtR vs (a e S) := id rfl
@[simp] theorem fgt_next {vs : List Nat} : fgtR vs (.next e S) = .next (wipeE e vs) S := id rfl
@[simp] theorem fgt_ret {vs : List Nat} {d : D} : fgtR vs (.ret d S) = .ret d S := id rfl
@[simp] theorem fgt_brk {vs : List Nat} : fgtR vs (.brk e S) = .brk e S := id rfl
@[simp] theorem fgt_bad {vs : List Nat} : fgtR vs .bad = .bad := id rfl
@[simp] theorem ap_For {dead : List Nat} {tg : Tg} {it : Ev Src} : sFor dead tg it a e S = (it e S).stm e fun src S => forD dead tg src a src.items e S := id rfl
@[simp] theorem ap_iL : iL f e S = (f e S).bind srcL := id rfl
@[simp] theorem ap_iT : iT f e S = (f e S).bind srcT := id rfl
@[simp] theorem ap_iR1 : iR1 f e S = (f e S).bind fun x S => srcR1 [x] S := by
  unfold iR1
  simp only [ap_Args, ap_Args0]
  cases f e S <;> rfl
@[simp] theorem ap_iR2 : iR2 f g e S = (f e S).bind fun x S => (g e S).bind fun y S => srcR2 [x, y] S := by
  unfold iR2
  simp only [ap_Args, ap_Args0]
  cases f e S with
  | ok a S1 => simp only [Res.bind_ok]; cases g e S1 <;> rfl
  | exc c S1 => rfl
  | bad => rfl
@[simp] theorem ap_Lc {vs : List Nat} {tg : Tg} {it : Ev Src} : nLc vs tg it t f e S = (it e S).bind fun src S => if src.items.length ≤ sizeLine then (lcD tg src t f (wipeE e vs) src.items S).bind fun ds S => .ok (.lst ds) S else .bad := id rfl
@[simp] theorem wipe_nil : wipeE e [] = e := id rfl
@[simp] theorem wipe_cons {v : Nat} {vs : List Nat} : wipeE e (v :: vs) = (wipeE e vs).set v none := id rfl
@[simp] theorem bindT_nm {i : Nat} {d : D} : bindT (.nm i) d e = some (e.set i (some d)) := id rfl
@[simp] theorem bindT_tp {ts : List Tg} {ds : List D} : bindT (.tp ts) (.tup ds) e = bindTs ts ds e := id rfl
@[simp] theorem bindT_tpi {ts : List Tg} {ds : List D} : bindT (.tp ts) (.tpi ds) e = bindTs ts ds e := id rfl
@[simp] theorem bindTs_nil : bindTs [] [] e = some e := id rfl
@[simp] theorem bindTs_cons {t : Tg} {ts : List Tg} {d : D} {ds : List D} : bindTs (t :: ts) (d :: ds) e = (bindT t d e).bind fun e => bindTs ts ds e := id rfl
/-- operations -/
@[simp] theorem addD_int {i j : Int} : addD (.int i) (.int j) S = .ok (.int (i + j)) S := id rfl
@[simp] theorem addD_tup {i j : List D} : addD (.tup i) (.tup j) S = if i.length + j.length ≤ sizeLine then .ok (.tup (i ++ j)) S else .bad := id rfl
@[simp] theorem addD_str {i j : Str} : addD (.str i) (.str j) S = if i.length + j.length ≤ sizeLine then .ok (.str (i ++ j)) S else .bad := id rfl
@[simp] theorem mulD_int {i j : Int} : mulD (.int i) (.int j) S = if FitMul i j then .ok (.int (i * j)) S else .bad := id rfl
@[simp] theorem negD_int {i : Int} : negD (.int i) S = .ok (.int (-i)) S := id rfl
@[simp] theorem isND_ap {neg : Bool} {d : D} : isND neg d S = .ok (.bl (if neg = true then !d.isN else d.isN)) S := id rfl
@[simp] theorem isN_non : D.non.isN = true := id rfl
@[simp] theorem isN_int {i : Int} : (D.int i).isN = false := id rfl
@[simp] theorem isN_tup {i : List D} : (D.tup i).isN = false := id rfl
@[simp] theorem isN_str {i : Str} : (D.str i).isN = false := id rfl
@[simp] theorem truD_bl {b : Bool} : truD (.bl b) S = .ok b S := id rfl
@[simp] theorem truD_int {i : Int} : truD (.int i) S = .ok (i != 0) S := id rfl
@[simp] theorem lenD_tup {xs : List D} : lenD [.tup xs] S = .ok (.int xs.length) S := id rfl
@[simp] theorem lenD_lst {xs : List D} : lenD [.lst xs] S = .ok (.int xs.length) S := id rfl
@[simp] theorem lenD_fls {xs : List D} : lenD [.fls xs] S = .ok (.int xs.length) S := id rfl
theorem lenD_ref {k : Nat} {xs : List D} (h : S[k]? = some (.lst xs)) : lenD [.ref k] S = .ok (.int xs.length) S := by
  simp [lenD, dcOf, sqOf, lsOf, h]
@[simp] theorem int1_int {i : Int} : int1D [.int i] S = .ok (.int i) S := id rfl
@[simp] theorem int1_bl {b : Bool} : int1D [.bl b] S = .ok (.int (if b then 1 else 0)) S := id rfl
@[simp] theorem tupD_tup {xs : List D} : tupD [.tup xs] S = .ok (.tup xs) S := id rfl
@[simp] theorem tupD_lst {xs : List D} : tupD [.lst xs] S = .ok (.tup xs) S := id rfl
@[simp] theorem ixD_tup {xs : List D} {j : Int} : ixD (.tup xs) (.int j) S = opt (atI xs j) S := id rfl
@[simp] theorem ixD_lst {xs : List D} {j : Int} : ixD (.lst xs) (.int j) S = opt (atI xs j) S := id rfl
@[simp] theorem ixD_fls {xs : List D} {j : Int} : ixD (.fls xs) (.int j) S = opt (atI xs j) S := id rfl
theorem ixD_ref {k : Nat} {xs : List D} {j : Int} (h : S[k]? = some (.lst xs)) : ixD (.ref k) (.int j) S = opt (atI xs j) S := by
  simp [ixD, dcOf, sqOf, lsOf, h]
@[simp] theorem srcT_tup {xs : List D} : srcT (.tup xs) S = .ok (.tmp xs) S := id rfl
@[simp] theorem srcL_lst {xs : List D} : srcL (.lst xs) S = .ok (.tmp xs) S := id rfl
@[simp] theorem srcL_fls {xs : List D} : srcL (.fls xs) S = .ok (.tmp xs) S := id rfl
theorem srcL_ref {k : Nat} {xs : List D} (h : S[k]? = some (.lst xs)) : srcL (.ref k) S = .ok (.st k xs) S := by
  simp [srcL, h]
theorem stD_lst {k : Nat} {xs : List D} {j : Int} {v : D} {n : Nat} (h : S[k]? = some (.lst xs)) (hn : ixN xs.length j = some n) : stD (.ref k) (.int j) v S = some (S.set k (.lst (xs.set n v))) := by
  simp [stD, h, hn]
theorem appD_ref {k : Nat} {xs : List D} {y : D} (h : S[k]? = some (.lst xs)) (hl : xs.length < sizeLine) : appD (.ref k) [y] S = .ok .non (S.set k (.lst (xs ++ [y]))) := by
  simp [appD, h, hl]
theorem isT_ref {k : Nat} {xs : List D} (h : S[k]? = some (.lst xs)) : isT "list" (.ref k) S := by
  simp [isT, lsOf, h]
end
theorem fin_frz {S S' : Sto} {d : D} (hc : Clo S S') (h : d.gnd = true) : fin .frz S d S' = .ok d (S'.take S.length) := by
  simp only [fin]
  rw [if_pos hc]
  unfold frzV
  rw [if_pos (gnd_below _ d h)]
  rfl
theorem Clo.refl {S : Sto} : Clo S S := ⟨Nat.le_refl _, fun k o hk h => .inl h⟩
theorem Clo.app {S T : Sto} : Clo S (S ++ T) := ⟨by simp, fun k o hk h => .inl (by rw [List.getElem?_append_left hk] at h; exact h)⟩
theorem fin_same {S : Sto} {d : D} (h : d.gnd = true) : fin .frz S d S = .ok d S := by
  rw [fin_frz .refl h, List.take_length]
theorem fin_app {S T : Sto} {d : D} (h : d.gnd = true) : fin .frz S d (S ++ T) = .ok d S := by
  rw [fin_frz .app h, List.take_left]
theorem Clo.set {S T : Sto} {k : Nat} {o : DO} (h : o.bel S.length = true) : Clo S (S.set k o ++ T) := ⟨by simp, fun j u hj e => by
  rw [List.getElem?_append_left (by simpa using hj)] at e
  by_cases hk : k = j
  · subst hk
    rw [List.getElem?_set_self hj] at e
    cases e
    exact .inr h
  · rw [List.getElem?_set_ne hk] at e
    exact .inl e⟩
theorem fin_set {S T : Sto} {d : D} {k : Nat} {o : DO} (h : d.gnd = true) (ho : o.bel S.length = true) : fin .frz S d (S.set k o ++ T) = .ok d (S.set k o) := by
  rw [fin_frz (.set ho) h]
  have : (S.set k o).length = S.length := by simp
  rw [← this, List.take_left]
theorem fin_set0 {S : Sto} {d : D} {k : Nat} {o : DO} (h : d.gnd = true) (ho : o.bel S.length = true) : fin .frz S d (S.set k o) = .ok d (S.set k o) := by
  have := fin_set (T := []) (S := S) (k := k) h ho
  simpa using this
@[simp] theorem retD_ret {m : Md} {S S' : Sto} {d : D} : retD m S (.ret d S') = fin m S d S' := id rfl
@[simp] theorem retD_next {m : Md} {S S' : Sto} {e : En} : retD m S (.next e S') = fin m S .non S' := id rfl
@[simp] theorem gnd_non : D.non.gnd = true := id rfl
@[simp] theorem gnd_bl {b : Bool} : (D.bl b).gnd = true := id rfl
@[simp] theorem gnd_int {b : Int} : (D.int b).gnd = true := id rfl
@[simp] theorem gnd_str {b : Str} : (D.str b).gnd = true := id rfl
@[simp] theorem gnd_tup {xs : List D} : (D.tup xs).gnd = gnds xs := id rfl
@[simp] theorem gnd_lst {xs : List D} : (D.lst xs).gnd = gnds xs := id rfl
@[simp] theorem gnd_fls {xs : List D} : (D.fls xs).gnd = gnds xs := id rfl
@[simp] theorem gnds_nil : gnds [] = true := id rfl
@[simp] theorem gnds_cons {x : D} {xs : List D} : gnds (x :: xs) = (x.gnd && gnds xs) := id rfl
theorem gnds_all : ∀ xs : List D, gnds xs = xs.all D.gnd
  | [] => rfl
  | x :: xs => by rw [gnds_cons, List.all_cons, gnds_all xs]
@[simp] theorem gnds_app {xs ys : List D} : gnds (xs ++ ys) = (gnds xs && gnds ys) := by simp [gnds_all]
theorem gnds_map {α : Type} {f : α → D} (h : ∀ x, (f x).gnd = true) (xs : List α) : gnds (xs.map f) = true := by simp [gnds_all, h]
@[simp] theorem gnds_ints (xs : List Int) : gnds (xs.map D.int) = true := gnds_map (fun _ => rfl) xs
@[simp] theorem bel_lstO {n : Nat} {xs : List D} : (DO.lst xs).bel n = belows n xs := id rfl
@[simp] theorem belows_nil {n : Nat} : belows n [] = true := id rfl
@[simp] theorem belows_cons {n : Nat} {x : D} {xs : List D} : belows n (x :: xs) = (x.bel n && belows n xs) := id rfl
@[simp] theorem bel_int {n : Nat} {i : Int} : (D.int i).bel n = true := id rfl
theorem atI_cast {α : Type} {xs : List α} {n : Nat} : atI xs (n : Int) = xs[n]? := by
  by_cases h : n < xs.length
  · rw [List.getElem?_eq_getElem h]
    exact atI_nat (List.getElem?_eq_getElem h)
  · rw [List.getElem?_eq_none (by omega)]
    unfold atI ixN
    rw [if_pos (by omega), if_neg (by omega)]
    rfl
@[simp] theorem atI_0 {α : Type} {xs : List α} : atI xs 0 = xs[0]? := atI_cast (n := 0)
@[simp] theorem atI_1 {α : Type} {xs : List α} : atI xs 1 = xs[1]? := atI_cast (n := 1)
@[simp] theorem atI_2 {α : Type} {xs : List α} : atI xs 2 = xs[2]? := atI_cast (n := 2)
@[simp] theorem atI_3 {α : Type} {xs : List α} : atI xs 3 = xs[3]? := atI_cast (n := 3)
@[simp] theorem atI_4 {α : Type} {xs : List α} : atI xs 4 = xs[4]? := atI_cast (n := 4)
@[simp] theorem atI_m1 {α : Type} {xs : List α} : atI xs (-1) = xs.getLast? := by
  rcases List.eq_nil_or_concat xs with h | ⟨ys, y, h⟩
  · subst h; rfl
  · subst h
    rw [List.concat_eq_append, atI_last]
    simp
theorem modD_pos {i j : Int} {S : Sto} (h : 0 < j) : modD (.int i) (.int j) S = .ok (.int (i % j)) S := by
  simp [fmodI, h]
  omega
theorem fdivD_pos {i j : Int} {S : Sto} (h : 0 < j) (hl : j.natAbs.log2 < 9000) : fdivD (.int i) (.int j) S = .ok (.int (i / j)) S := by
  simp [fdivI, DivOk, h, hl]
@[simp] theorem startE_a1 {n : Nat} {a : D} : startE (n + 1) [a] = some a :: List.replicate n none := id rfl
@[simp] theorem startE_a2 {n : Nat} {a b : D} : startE (n + 2) [a, b] = some a :: some b :: List.replicate n none := id rfl
@[simp] theorem startE_a3 {n : Nat} {a b c : D} : startE (n + 3) [a, b, c] = some a :: some b :: some c :: List.replicate n none := id rfl
@[simp] theorem startE_a4 {n : Nat} {a b c d : D} : startE (n + 4) [a, b, c, d] = some a :: some b :: some c :: some d :: List.replicate n none := id rfl
end Pu
set_option Elab.async false
set_option linter.all false
set_option maxRecDepth 100000
namespace Pu
open PySem PySem.Spec PyProof.Rows L2
/-- what a turn leaves -/
noncomputable def aft (dead : List Nat) (r : SRes) : SRes := match r with
  | .next e2 S2 => .next (wipeE e2 dead) S2
  | .cnt e2 S2 => .next (wipeE e2 dead) S2
  | r => r
@[simp] theorem aft_next {dead : List Nat} {e : En} {S : Sto} : aft dead (.next e S) = .next (wipeE e dead) S := id rfl
@[simp] theorem aft_cnt {dead : List Nat} {e : En} {S : Sto} : aft dead (.cnt e S) = .next (wipeE e dead) S := id rfl
@[simp] theorem aft_brk {dead : List Nat} {e : En} {S : Sto} : aft dead (.brk e S) = .brk e S := id rfl
@[simp] theorem aft_ret {dead : List Nat} {d : D} {S : Sto} : aft dead (.ret d S) = .ret d S := id rfl
/-- one turn of a for -/
noncomputable def turn (dead : List Nat) (tg : Tg) (body : Stm) (x : D) (e : En) (S : Sto) : SRes := match bindT tg x e with
  | none => .bad
  | some e1 => aft dead (body e1 S)
section
variable {dead : List Nat} {tg : Tg} {src : Src} {body : Stm} {e : En} {S : Sto}
theorem forD_nil (h : src.ok S) : forD dead tg src body [] e S = .next e S := by
  unfold forD
  rw [if_pos h]
theorem forD_cons {x : D} {xs : List D} (h : src.ok S) : forD dead tg src body (x :: xs) e S = match turn dead tg body x e S with
    | .next e2 S2 => forD dead tg src body xs e2 S2
    | .brk e2 S2 => .next e2 S2
    | .cnt e2 S2 => .cnt e2 S2
    | r => r := by
  conv => lhs; unfold forD
  rw [if_pos h]
  unfold turn
  cases bindT tg x e with
  | none => rfl
  | some e1 =>
    simp only [aft]
    cases body e1 S <;> rfl
/-- every turn goes on -/
theorem for_inv (I : Nat → En → Sto → Prop) (ok : ∀ n e S, I n e S → src.ok S) : ∀ (xs : List D) (k : Nat) (e : En) (S : Sto), I k e S →
    (∀ (n : Nat) (e : En) (S : Sto) (x : D), xs[n]? = some x → I (k + n) e S → ∃ e' S', turn dead tg body x e S = .next e' S' ∧ I (k + n + 1) e' S') →
    ∃ e' S', forD dead tg src body xs e S = .next e' S' ∧ I (k + xs.length) e' S'
  | [], k, e, S, h0, _ => ⟨e, S, forD_nil (ok _ _ _ h0), h0⟩
  | x :: xs, k, e, S, h0, h => by
    obtain ⟨e1, S1, q1, h1⟩ := h 0 e S x rfl h0
    obtain ⟨e2, S2, q2, h2⟩ := for_inv I ok xs (k + 1) e1 S1 h1 fun n e S y hy hI => by
      have := h (n + 1) e S y (by simpa using hy)
      rw [show k + (n + 1) = k + 1 + n by omega] at this
      exact this hI
    refine ⟨e2, S2, ?_, by rw [List.length_cons, show k + (xs.length + 1) = k + 1 + xs.length by omega]; exact h2⟩
    rw [forD_cons (ok _ _ _ h0), q1]
    exact q2
/-- .. from the first, over data that stand still -/
theorem for_inv0 {ys : List D} (I : Nat → En → Sto → Prop) {xs : List D} (h0 : I 0 e S) (h : ∀ (n : Nat) (e : En) (S : Sto) (x : D), xs[n]? = some x → I n e S → ∃ e' S', turn dead tg body x e S = .next e' S' ∧ I (n + 1) e' S') :
    ∃ e' S', forD dead tg (.tmp ys) body xs e S = .next e' S' ∧ I xs.length e' S' := by
  obtain ⟨e', S', q, h'⟩ := for_inv (src := .tmp ys) I (fun _ _ _ _ => trivial) xs 0 e S h0 (fun n e S x hx hI => by
    rw [Nat.zero_add] at hI ⊢
    exact h n e S x hx hI)
  rw [Nat.zero_add] at h'
  exact ⟨e', S', q, h'⟩
/-- a search: a turn goes on as it was, or ends the def -/
theorem for_find {ι : Type} {ys : List D} (f : ι → D) (g : ι → Option D) : ∀ (xs : List ι), (∀ x ∈ xs, turn dead tg body (f x) e S = match g x with | some d => .ret d S | none => .next e S) →
    forD dead tg (.tmp ys) body (xs.map f) e S = match xs.findSome? g with | some d => .ret d S | none => .next e S
  | [], _ => forD_nil trivial
  | x :: xs, h => by
    rw [List.map_cons, forD_cons (src := .tmp ys) trivial, h x List.mem_cons_self, List.findSome?_cons]
    cases g x with
    | some d => rfl
    | none => exact for_find f g xs fun y hy => h y (List.mem_cons_of_mem _ hy)
variable {t : Ev Bool} {f : Ev D}
/-- a comprehension that changes nothing -/
theorem lc_map {ι : Type} {ys : List D} (v : ι → D) (p : ι → Bool) (g : ι → D) : ∀ (xs : List ι), (∀ x ∈ xs, ∃ e1, bindT tg (v x) e = some e1 ∧ t e1 S = .ok (p x) S ∧ (p x = true → f e1 S = .ok (g x) S)) →
    lcD tg (.tmp ys) t f e (xs.map v) S = .ok ((xs.filter p).map g) S
  | [], _ => by
    rw [List.map_nil, lcD_nil, if_pos (show (Src.tmp ys).ok S from trivial)]
    rfl
  | x :: xs, h => by
    obtain ⟨e1, q1, q2, q3⟩ := h x List.mem_cons_self
    rw [List.map_cons, lcD_cons, if_pos (show (Src.tmp ys).ok S from trivial), q1]
    simp only [q2, nox_ok, Res.bind_ok]
    have ih := lc_map (ys := ys) v p g xs fun y hy => h y (List.mem_cons_of_mem _ hy)
    cases hp : p x with
    | true => simp only [q3 hp, if_true, nox_ok, Res.bind_ok, ih, List.filter_cons_of_pos hp, List.map_cons]
    | false =>
      rw [if_neg Bool.false_ne_true, ih, List.filter_cons_of_neg (by simp [hp])]
theorem lc_all {ι : Type} {ys : List D} (v : ι → D) (g : ι → D) (xs : List ι) (h : ∀ x ∈ xs, ∃ e1, bindT tg (v x) e = some e1 ∧ f e1 S = .ok (g x) S) : lcD tg (.tmp ys) tYesD f e (xs.map v) S = .ok (xs.map g) S := by
  have := lc_map (t := tYesD) (f := f) (ys := ys) v (fun _ => true) g xs fun x hx => by
    obtain ⟨e1, q1, q2⟩ := h x hx
    exact ⟨e1, q1, rfl, fun _ => q2⟩
  rw [this, List.filter_eq_self.mpr fun _ _ => rfl]
/-- a comprehension that changes the store -/
theorem lc_inv {ys : List D} (I : Nat → Sto → List D → Prop) : ∀ (xs : List D) (k : Nat) (S : Sto) (acc : List D), I k S acc →
    (∀ (n : Nat) (S : Sto) (acc : List D) (x : D), xs[n]? = some x → I (k + n) S acc → ∃ e1 d S', bindT tg x e = some e1 ∧ f e1 S = .ok d S' ∧ I (k + n + 1) S' (acc ++ [d])) →
    ∃ ds S', lcD tg (.tmp ys) tYesD f e xs S = .ok ds S' ∧ I (k + xs.length) S' (acc ++ ds)
  | [], k, S, acc, h0, _ => ⟨[], S, by rw [lcD_nil, if_pos (show (Src.tmp ys).ok S from trivial)], by simpa using h0⟩
  | x :: xs, k, S, acc, h0, h => by
    obtain ⟨e1, d, S1, q1, q2, h1⟩ := h 0 S acc x rfl h0
    obtain ⟨ds, S2, q3, h2⟩ := lc_inv (ys := ys) I xs (k + 1) S1 (acc ++ [d]) h1 fun n S acc y hy hI => by
      have := h (n + 1) S acc y (by simpa using hy)
      rw [show k + (n + 1) = k + 1 + n by omega] at this
      exact this hI
    refine ⟨d :: ds, S2, ?_, by rw [List.length_cons, show k + (xs.length + 1) = k + 1 + xs.length by omega]; simpa using h2⟩
    rw [lcD_cons, if_pos (show (Src.tmp ys).ok S from trivial), q1]
    simp only [ap_yes, nox_ok, Res.bind_ok, if_true, q2, q3]
end
@[simp] theorem rngD_len {lo hi : Int} : (rngD lo hi).length = (hi - lo).toNat := by simp [rngD]
theorem rngD_get {lo hi : Int} {n : Nat} {x : D} (h : (rngD lo hi)[n]? = some x) : x = .int (lo + n) ∧ lo + n < hi := by
  unfold rngD at h
  have hn : n < (hi - lo).toNat := by
    have := (List.getElem?_eq_some_iff.mp h).1
    simpa using this
  rw [List.getElem?_map, List.getElem?_range hn] at h
  exact ⟨(Option.some.inj h).symm, by omega⟩
@[simp] theorem srcR1_ap {j : Int} {S : Sto} : srcR1 [.int j] S = if Rg62 j then .ok (.tmp (rngD 0 j)) S else .bad := id rfl
@[simp] theorem srcR2_ap {i j : Int} {S : Sto} : srcR2 [.int i, .int j] S = if Rg62 i ∧ Rg62 j then .ok (.tmp (rngD i j)) S else .bad := id rfl
theorem FitMul.left {i j : Int} (h1 : -18446744073709551616 < i) (h2 : i < 18446744073709551616) : FitMul i j := .inl ⟨by omega, by omega⟩
theorem FitMul.right {i j : Int} (h1 : -18446744073709551616 < j) (h2 : j < 18446744073709551616) : FitMul i j := .inr (.inl ⟨by omega, by omega⟩)
theorem bits_le {i : Int} {b : Nat} (h : i.natAbs < 2 ^ b) : Builtin.Int.intBits i ≤ b := by
  unfold Builtin.Int.intBits
  split
  · omega
  · rename_i hz
    have hn : i.natAbs ≠ 0 := fun e => hz (by have : i = 0 := Int.natAbs_eq_zero.mp e; subst this; rfl)
    have := (Nat.log2_lt hn).mpr h
    omega
theorem PowOk.of {i j : Int} {b : Nat} (h : i.natAbs < 2 ^ b) (h0 : 0 ≤ j) (hb : (b : Int) * j ≤ 134217728) : PowOk i j := by
  refine ⟨h0, ?_⟩
  have h1 := bits_le h
  have : (Builtin.Int.intBits i : Int) * j ≤ (b : Int) * j := Int.mul_le_mul_of_nonneg_right (by omega) h0
  omega
theorem pw18 : PowOk 10 18 := by decide
theorem powD_ok {i j : Int} {S : Sto} (h : PowOk i j) : powD (.int i) (.int j) S = .ok (.int (i ^ j.toNat)) S := if_pos h
theorem mulD_ok {i j : Int} {S : Sto} (h : FitMul i j) : mulD (.int i) (.int j) S = .ok (.int (i * j)) S := if_pos h
theorem p10_18 {S : Sto} : powD (.int 10) (.int 18) S = .ok (.int 1000000000000000000) S := powD_ok pw18
theorem mul_lt {i j : Int} {a b : Int} (h1 : 0 ≤ i) (h2 : i < a) (h3 : 0 ≤ j) (h4 : j < b) : i * j < a * b := by
  have h5 : i * j ≤ i * b := Int.mul_le_mul_of_nonneg_left (by omega) h1
  have h6 : i * b < a * b := Int.mul_lt_mul_of_pos_right h2 (by omega)
  omega
end Pu
set_option Elab.async false
set_option linter.all false
set_option maxRecDepth 100000
namespace Pu
open PySem PySem.Spec PyProof.Rows L2
/-- data of one kind: f tells them, n bounds their depth -/
structure Rp {α : Type} (f : α → D) (n : Nat) : Prop where
  eqv : ∀ x y, PyData.eqv (f x).py (f y).py = true ↔ x = y
  lay : ∀ x, (f x).py.canLay0 = true
  dep : ∀ x, (f x).py.depth ≤ n
  flat : ∀ x S, pyOf S (f x) = (f x).py
  gnd : ∀ x, (f x).gnd = true
theorem Rp.int : Rp D.int 0 := ⟨fun x y => by simp [D.py, PyData.eqv], fun _ => rfl, fun _ => Nat.le_refl _, fun _ _ => rfl, fun _ => rfl⟩
theorem Rp.bl : Rp D.bl 0 := ⟨fun x y => by cases x <;> cases y <;> decide, fun _ => rfl, fun _ => Nat.le_refl _, fun _ _ => rfl, fun _ => rfl⟩
/-- a row of two -/
noncomputable def prD {α β : Type} (f : α → D) (g : β → D) (p : α × β) : D := .tup [f p.1, g p.2]
noncomputable def tpD {α : Type} (f : α → D) (xs : List α) : D := .tup (xs.map f)
noncomputable def lsD {α : Type} (f : α → D) (xs : List α) : D := .lst (xs.map f)
theorem Rp.pr {α β : Type} {f : α → D} {g : β → D} {n m : Nat} (hf : Rp f n) (hg : Rp g m) : Rp (prD f g) (max n m + 1) := ⟨fun x y => by
    obtain ⟨a, b⟩ := x
    obtain ⟨c, d⟩ := y
    simp [prD, D.py, pys, PyData.eqv, PyData.eqvAll, hf.eqv, hg.eqv], fun x => by
    simp [prD, D.py, pys, PyData.canLay0, PyData.canLayAll0, hf.lay, hg.lay], fun x => by
    have h1 := hf.dep x.1
    have h2 := hg.dep x.2
    simp only [prD, D.py, pys, PyData.depth, PyData.depthAll]
    omega, fun _ _ => rfl, fun x => by
    simp [prD, hf.gnd, hg.gnd]⟩
theorem eqvs {α : Type} {f : α → D} {n : Nat} (hf : Rp f n) : ∀ xs ys : List α, PyData.eqvAll (pys (xs.map f)) (pys (ys.map f)) = true ↔ xs = ys
  | [], [] => by simp [pys, PyData.eqvAll]
  | [], _ :: _ => by simp [pys, PyData.eqvAll]
  | _ :: _, [] => by simp [pys, PyData.eqvAll]
  | x :: xs, y :: ys => by
    simp [pys, PyData.eqvAll, hf.eqv, eqvs hf xs ys]
theorem lays {α : Type} {f : α → D} {n : Nat} (hf : Rp f n) : ∀ xs : List α, PyData.canLayAll0 (pys (xs.map f)) = true
  | [] => rfl
  | x :: xs => by simp [pys, PyData.canLayAll0, hf.lay, lays hf xs]
theorem deps {α : Type} {f : α → D} {n : Nat} (hf : Rp f n) : ∀ xs : List α, PyData.depthAll (pys (xs.map f)) ≤ n
  | [] => Nat.zero_le _
  | x :: xs => by
    have h1 := hf.dep x
    have h2 := deps hf xs
    simp only [List.map_cons, pys, PyData.depthAll]
    omega
theorem Rp.tp {α : Type} {f : α → D} {n : Nat} (hf : Rp f n) : Rp (tpD f) (n + 1) := ⟨fun x y => by
    simp only [tpD, D.py, PyData.eqv]
    exact eqvs hf x y, fun x => by
    simp only [tpD, D.py, PyData.canLay0]
    exact lays hf x, fun x => by
    have := deps hf x
    simp only [tpD, D.py, PyData.depth]
    omega, fun _ _ => rfl, fun x => by
    simp [tpD, gnds_map hf.gnd]⟩
theorem Rp.ls {α : Type} {f : α → D} {n : Nat} (hf : Rp f n) : Rp (lsD f) (n + 1) := ⟨fun x y => by
    simp only [lsD, D.py, PyData.eqv]
    exact eqvs hf x y, fun x => by
    simp only [lsD, D.py, PyData.canLay0]
    exact lays hf x, fun x => by
    have := deps hf x
    simp only [lsD, D.py, PyData.depth]
    omega, fun _ _ => rfl, fun x => by
    simp [lsD, gnds_map hf.gnd]⟩
theorem Rp.shp {α : Type} {f : α → D} {n : Nat} (hf : Rp f n) (h : n ≤ 64) (x : α) (S : Sto) : Pu.shp S (f x) = true := by
  have := hf.dep x
  unfold Pu.shp SeqAt.shaped
  rw [hf.flat, hf.lay]
  simp
  omega
theorem Rp.eqB {α : Type} [DecidableEq α] {f : α → D} {n : Nat} (hf : Rp f n) (x y : α) (S : Sto) : Pu.eqB S (f x) (f y) = decide (x = y) := by
  unfold Pu.eqB
  rw [hf.flat, hf.flat]
  rw [Bool.eq_iff_iff, hf.eqv]
  simp
theorem Rp.eq {α : Type} [DecidableEq α] {f : α → D} {n : Nat} (hf : Rp f n) (h : n ≤ 64) (x y : α) (S : Sto) : eqD false (f x) (f y) S = .ok (.bl (decide (x = y))) S := by
  simp [eqD, hf.shp h, hf.eqB]
theorem Rp.ne {α : Type} [DecidableEq α] {f : α → D} {n : Nat} (hf : Rp f n) (h : n ≤ 64) (x y : α) (S : Sto) : eqD true (f x) (f y) S = .ok (.bl (!decide (x = y))) S := by
  simp [eqD, hf.shp h, hf.eqB]
@[simp] theorem eqD_int {i j : Int} {S : Sto} : eqD false (.int i) (.int j) S = .ok (.bl (decide (i = j))) S := Rp.int.eq (by decide) i j S
@[simp] theorem neD_int {i j : Int} {S : Sto} : eqD true (.int i) (.int j) S = .ok (.bl (!decide (i = j))) S := Rp.int.ne (by decide) i j S
theorem frz_ref {S S' : Sto} {k : Nat} {xs : List D} (hc : Clo S S') (hk : S.length ≤ k) (h : S'[k]? = some (.lst xs)) (hx : gnds xs = true) : fin .frz S (.ref k) S' = .ok (.lst xs) (S'.take S.length) := by
  have h1 : allSome (xs.map (frzV S.length S' 5)) = some xs := by
    have : ∀ ys : List D, gnds ys = true → allSome (ys.map (frzV S.length S' 5)) = some ys := by
      intro ys
      induction ys with
      | nil => intro _; rfl
      | cons y ys ih =>
        intro hy
        have h' : y.gnd = true ∧ gnds ys = true := by simpa using hy
        have e : frzV S.length S' 5 y = some y := by
          unfold frzV
          rw [if_pos (gnd_below _ y h'.1)]
        simp only [List.map_cons, e, allSome, ih h'.2, Option.map_some]
    exact this xs hx
  simp only [fin]
  rw [if_pos hc]
  unfold frzV
  rw [if_neg (by simp [D.bel]; omega)]
  simp only [h, h1, Option.map_some]
  rfl
theorem finR_app {S T : Sto} {k : Nat} {xs : List D} (hk : S.length ≤ k) (h : (S ++ T)[k]? = some (.lst xs)) (hx : gnds xs = true) : fin .frz S (.ref k) (S ++ T) = .ok (.lst xs) S := by
  rw [frz_ref .app hk h hx, List.take_left]
noncomputable def Dg (S : Sto) (k : Nat) (x : Int) : Sto := S.set k (.lst [.int x])
section
variable {S T : Sto} {k j : Nat} {x y : Int}
@[simp] theorem Dg_len : (Dg S k x).length = S.length := by simp [Dg]
theorem Dg_at (h : k < S.length) : (Dg S k x)[k]? = some (.lst [.int x]) := by simp [Dg, h]
theorem Dg_ne (h : j ≠ k) : (Dg S k x)[j]? = S[j]? := by simp [Dg, Ne.symm h]
theorem Dg_set : (Dg S k x).set k (.lst [.int y]) = Dg S k y := by simp [Dg]
theorem Dg_app (h : k < S.length) : Dg S k x ++ T = Dg (S ++ T) k x := by simp [Dg, List.set_append, h]
theorem Dg_comm {o : DO} (h : j ≠ k) : (Dg S k x).set j o = Dg (S.set j o) k x := by
  unfold Dg
  rw [List.set_comm _ _ (Ne.symm h)]
theorem Dg_of (h : S[k]? = some (.lst [.int x])) : Dg S k x = S := by
  unfold Dg
  apply List.ext_getElem?
  intro i
  by_cases hi : k = i
  · subst hi
    rw [List.getElem?_set_self (List.getElem?_eq_some_iff.mp h).1, h]
  · rw [List.getElem?_set_ne hi]
/-- what a def hands back that drew and made one list -/
theorem Dg_clo (h : k < S.length) : Clo (Dg S k x) (Dg S k y ++ T) := by
  have := Clo.set (S := Dg S k x) (T := T) (k := k) (o := .lst [.int y]) (by simp)
  rw [Dg_set] at this
  exact this
theorem fin_dg {d : D} (h : k < S.length) (hd : d.gnd = true) : fin .frz (Dg S k x) d (Dg S k y ++ T) = .ok d (Dg S k y) := by
  rw [fin_frz (Dg_clo h) hd]
  have : (Dg S k x).length = (Dg S k y).length := by simp
  rw [this, List.take_left]
theorem fin_dg0 {d : D} (h : k < S.length) (hd : d.gnd = true) : fin .frz (Dg S k x) d (Dg S k y) = .ok d (Dg S k y) := by
  have := fin_dg (x := x) (y := y) (T := []) h hd
  simpa using this
theorem fin_dgR {xs : List D} {n : Nat} (h : k < S.length) (hn : n = S.length) (hx : gnds xs = true) : fin .frz (Dg S k x) (.ref n) (Dg (S ++ [.lst xs]) k y) = .ok (.lst xs) (Dg S k y) := by
  subst hn
  rw [← Dg_app h, frz_ref (xs := xs) (Dg_clo h) (by simp) (by simp) hx]
  have : (Dg S k x).length = (Dg S k y).length := by simp
  rw [this, List.take_left]
end
theorem sz {n : Nat} (h : n < 1048576) : n < sizeLine := Nat.lt_of_lt_of_le h (by unfold sizeLine; decide +kernel)
theorem set_last {S : Sto} {o p : DO} : (S ++ [o]).set S.length p = S ++ [p] := by simp
theorem last_at {S : Sto} {o : DO} : (S ++ [o])[S.length]? = some o := by simp
theorem Dg_last {S : Sto} {o : DO} {k : Nat} {z : Int} (h : k < S.length) : (Dg (S ++ [o]) k z)[S.length]? = some o := by
  rw [Dg_ne (by omega), last_at]
theorem Dg_setl {S : Sto} {o p : DO} {k : Nat} {z : Int} (h : k < S.length) : (Dg (S ++ [o]) k z).set S.length p = Dg (S ++ [p]) k z := by
  rw [Dg_comm (by omega), set_last]
theorem rg {n : Nat} (h : n < 1048576) : Rg62 (n : Int) := by
  unfold Rg62
  omega
theorem forR1 {dead : List Nat} {tg : Tg} {f : Ev D} {a : Stm} {e : En} {S : Sto} {n : Nat} (hf : f e S = .ok (.int n) S) (h : n < 1048576) : sFor dead tg (iR1 f) a e S = forD dead tg (.tmp (rngD 0 n)) a (rngD 0 n) e S := by
  rw [ap_For, ap_iR1, hf, Res.bind_ok, srcR1_ap, if_pos (rg h), Res.stm_ok]
  rfl
end Pu
set_option Elab.async false
set_option linter.all false
set_option maxRecDepth 100000
namespace Pu
open PySem PySem.Spec PyProof.Rows L2
theorem list_set0 {α : Type} {x y : α} {xs : List α} : (x :: xs).set 0 y = y :: xs := rfl
theorem list_setS {α : Type} {x y : α} {xs : List α} {n : Nat} : (x :: xs).set (n + 1) y = x :: xs.set n y := rfl
theorem rep_0 {α : Type} {x : α} : List.replicate 0 x = [] := rfl
theorem rep_S {α : Type} {x : α} {n : Nat} : List.replicate (n + 1) x = x :: List.replicate n x := rfl
theorem obs {α β : Type} {a : α} {f : α → Option β} : (some a).bind f = f a := rfl
theorem iftr {α : Type} {a b : α} : (if (true = true) then a else b) = a := rfl
theorem iffa {α : Type} {a b : α} : (if (false = true) then a else b) = b := rfl
theorem ifT {α : Type} {a b : α} : (if True then a else b) = a := if_pos trivial
theorem ifF {α : Type} {a b : α} : (if False then a else b) = b := if_neg not_false
noncomputable def goA := And.intro @ap_C (And.intro @ap_Var0 (And.intro @ap_VarS (And.intro @ap_1 (And.intro @ap_2 (And.intro @ap_TB (And.intro @ap_Ch (And.intro @ap_tAnd (And.intro @ap_tOr (And.intro @ap_tNot (And.intro @ap_eAnd (And.intro @ap_eOr (And.intro @ap_eNot (And.intro @ap_eIf (And.intro @ap_Tr (And.intro @ap_Args0 (And.intro @ap_Args (And.intro @ap_Tup (And.intro @ap_Call (And.intro @ap_Fn (And.intro @ap_nLst (And.intro @ap_nDct0 (And.intro @ap_Ano (And.intro @ap_New (And.intro @ap_M (And.intro @ap_Sl (And.intro @ap_pN (And.intro @ap_pE @ap_yes)))))))))))))))))))))))))))
noncomputable def goB := And.intro @ap_Set (And.intro @ap_Ret (And.intro @ap_Expr (And.intro @ap_Next (And.intro @ap_Brk (And.intro @ap_Seq (And.intro @ap_If (And.intro @ap_St (And.intro @ap_Asg (And.intro @ap_Aug (And.intro @ap_Fgt (And.intro @fgt_next (And.intro @fgt_ret (And.intro @fgt_brk (And.intro @wipe_nil (And.intro @wipe_cons (And.intro @bindT_nm (And.intro @bindT_tp (And.intro @bindT_tpi (And.intro @bindTs_nil @bindTs_cons)))))))))))))))))))
noncomputable def goC := And.intro @Res.bind_ok (And.intro @Res.stm_ok (And.intro @SRes.seq_next (And.intro @SRes.seq_ret (And.intro @SRes.seq_brk (And.intro @opt_some (And.intro @toB_bl (And.intro @aft_next (And.intro @aft_cnt (And.intro @aft_brk (And.intro @aft_ret (And.intro @retD_ret (And.intro @retD_next (And.intro @anoD_lst (And.intro @anoD_dct (And.intro @truD_bl (And.intro @truD_int (And.intro @list_set0 (And.intro @list_setS (And.intro @rep_0 (And.intro @rep_S (And.intro @obs (And.intro @iftr (And.intro @iffa (And.intro @ifT @ifF))))))))))))))))))))))))
noncomputable def goS := And.intro goA (And.intro goB goC)
section
variable {a b : Int} {S : Sto}
theorem subD_i : subD (.int a) (.int b) S = .ok (.int (a - b)) S := rfl
theorem ltD_i : ltD (.int a) (.int b) S = .ok (.bl (decide (a < b))) S := rfl
theorem leD_i : leD (.int a) (.int b) S = .ok (.bl (decide (a ≤ b))) S := rfl
theorem gtD_i : gtD (.int a) (.int b) S = .ok (.bl (decide (b < a))) S := rfl
end
/-- the start -/
noncomputable def go0 := And.intro @startE_a1 (And.intro @startE_a2 (And.intro @startE_a3 @startE_a4))
theorem boolsD_map {f : List Bool → Bool} {bs : List Bool} {S : Sto} : boolsD f [.lst (bs.map D.bl)] S = .ok (.bl (f bs)) S := by
  simp only [boolsD, lsOf_lst, Option.bind_some, bools_map]
end Pu
set_option Elab.async false
set_option linter.all false
set_option maxRecDepth 100000
namespace Pu
open PySem PySem.Spec PyProof.Rows L2
end Pu
set_option Elab.async false
set_option linter.all false
set_option maxRecDepth 100000
namespace L2
open PySem PySem.Spec PyProof.Rows
end L2
set_option Elab.async false
set_option linter.all false
set_option maxRecDepth 100000
namespace Pu
open PySem PySem.Spec PyProof.Rows L2
/-- set(xs) -/
noncomputable def rSetL (K : PySem.W.Frag) (w : World) : List V → Hp → VK → Prop := fun vs H Q => ∃ (a : Addr) (ns : List Int), vs = [V.ref a] ∧ SqL K H a (ns.map V.int) ∧ ns.length < 4095 ∧
  ∀ (p : Addr) (c : Nat), c ≤ ns.length → H p = none → Q (.ref p) (upd H p (SetO w p (fun j => decide (j ∈ ns)) c))
end Pu
set_option Elab.async false
set_option linter.all false
set_option maxRecDepth 100000
namespace Pu
open PySem PySem.Spec PyProof.Rows L2
noncomputable abbrev rowD : Int × Int → D := prD D.int D.int
end Pu
set_option Elab.async false
set_option linter.all false
set_option maxRecDepth 100000
namespace Pu
open PySem PySem.Spec PyProof.Rows L2
section
variable {cl : Str → Addr} {W : WX} {X : Cx} {a b o : Expr} {f g : Ev D} {pos apos cpos : Pos}
noncomputable def isBD (neg : Bool) (d e : D) (S : Sto) : Res D := match d, e with
  | .bl x, .bl y => .ok (.bl (if neg = true then !decide (x = y) else decide (x = y))) S
  | _, _ => .bad
@[simp] theorem isBD_bl {neg x y : Bool} {S : Sto} : isBD neg (.bl x) (.bl y) S = .ok (.bl (if neg = true then !decide (x = y) else decide (x = y))) S := id rfl
/-- xs.pop(i) -/
noncomputable def popD (o : D) (ds : List D) (S : Sto) : Res D := match o, ds with
  | .ref k, [.int i] => match S[k]? with
    | some (.lst xs) => match ixN xs.length i with
      | some n => match xs[n]? with
        | some y => if -(2 ^ 63) ≤ i ∧ i < 2 ^ 63 then .ok y (S.set k (.lst (xs.eraseIdx n))) else .bad
        | none => .bad
      | none => .bad
    | _ => .bad
  | _, _ => .bad
theorem VRs.erase {K : PySem.W.Frag} {am : AM} {H : Hp} : ∀ {ds : List D} {vs : List V} (n : Nat), VRs K am H ds vs → VRs K am H (ds.eraseIdx n) (vs.eraseIdx n)
  | _, _, _, .nil => .nil
  | _, _, 0, .cons _ t => t
  | _, _, n + 1, .cons h t => .cons h (VRs.erase n t)
theorem ok_pop : OkM X.K cl "list" rPopAt popD := by
  intro W σ am S H o ds x vs Q rs h1 h2 p
  cases h1 with
  | @ref k a hk =>
    cases h2 with
    | nil => exact p.elim
    | cons r1 r2 =>
      cases r2 with
      | cons _ _ => cases r1 <;> exact p.elim
      | nil =>
        cases r1 with
        | int i =>
          simp only [popD] at p
          cases e1 : S[k]? with
          | none => rw [e1] at p; exact p.elim
          | some ob =>
            rw [e1] at p
            cases ob with
            | lst xs =>
              obtain ⟨us, q1, q2⟩ := rs.ob k _ a e1 hk
              simp only at p
              cases e2 : ixN xs.length i with
              | none => rw [e2] at p; exact p.elim
              | some n =>
                rw [e2] at p
                simp only at p
                cases e3 : xs[n]? with
                | none => rw [e3] at p; exact p.elim
                | some y =>
                  rw [e3] at p
                  simp only at p
                  by_cases hz : -(2 ^ 63) ≤ i ∧ i < 2 ^ 63
                  · rw [if_pos hz] at p
                    obtain ⟨u, hu, ru⟩ := q2.get e3
                    have hm : a ∈ am.ad := List.mem_of_getElem? hk
                    refine ⟨a, us, i, n, u, rfl, rfl, q1, hz.1, hz.2, ?_, hu, p am _ _ (Grow.put hm) (rs.put hk ⟨_, upd_same, (q2.erase n).mono (Grow.put hm)⟩) (ru.mono (Grow.put hm))⟩
                    rw [← q2.length]
                    exact (ixN_seq e2).1
                  · rw [if_neg hz] at p
                    exact p.elim
            | _ => exact p.elim
        | _ => exact p.elim
  | _ => exact p.elim
theorem qe_pop1 (ho : QE cl W X o g) (ha : QE cl W X a f) (h0 : starEach [a] X.env = (false, eval a X.env) :: starEach [] X.env := by rfl)
    (hbase : attributeBase o "pop" X.env (eval o X.env) = eval o X.env := by rfl)
    (hfew : ((backTo cpos (starEach [a] X.env)).all (fun x => !x.1) && (backToKw cpos (keywordEach [] X.env)).all (fun x => x.1.isSome) && decide (([a] : List Expr).length + ([] : List Keyword).length + (if ([] : List Keyword).isEmpty then 0 else 1) < 30)) = true := by rfl)
    (hline : (apos.endLine == cpos.line) = true := by rfl) (hplain : (backTo cpos (starEach [] X.env)).any (·.1) = false := by rfl) :
    QE cl W X (.Call (.Attribute o "pop" apos) [a] [] cpos) (eM "list" popD g [f]) := qe_bm PySem.F.plainAttrs_list PySem.F.slot_list_pop PySem.F.type_list_pop mt_popAt ok_pop ho (qa_cons ha qa_nil h0) hbase hfew hline h0 hplain
end
noncomputable def srcS (d : D) (S : Sto) : Res Src := match d with
  | .tup xs => srcT (.tup xs) S
  | d => srcL d S
noncomputable def iS (f : Ev D) : Ev Src := fun e S => (f e S).bind srcS
theorem iS_is (f : Ev D) (e : En) (S : Sto) : iS f e S = iT f e S ∨ iS f e S = iL f e S := by
  unfold iS iT iL
  cases f e S with
  | ok d S1 =>
    cases d with
    | tup xs => exact .inl rfl
    | _ => exact .inr rfl
  | exc c S1 => exact .inl rfl
  | bad => exact .inl rfl
theorem qi_s {cl : Str → Addr} {W : WX} {X : Cx} {a tgE : Expr} {f : Ev D} (ha : QE cl W X a f) : QI cl W X tgE a (iS f) := ⟨fun pins s σ H R I h => by
  obtain ⟨am, e, S, rs, re, p⟩ := h
  rcases iS_is f e S with q | q
  · exact (qi_t ha).run pins s σ H R I ⟨am, e, S, rs, re, by rw [← q]; exact p⟩
  · exact (qi_l ha).run pins s σ H R I ⟨am, e, S, rs, re, by rw [← q]; exact p⟩⟩
section
variable {dead vs : List Nat} {tg : Tg} {f g : Ev D} {a : Stm} {e : En} {S : Sto} {xs ys : List D} {t : Ev Bool}
@[simp] theorem ap_iS : iS f e S = (f e S).bind srcS := id rfl
@[simp] theorem srcS_tup : srcS (.tup xs) S = .ok (.tmp xs) S := id rfl
@[simp] theorem srcS_lst : srcS (.lst xs) S = .ok (.tmp xs) S := id rfl
@[simp] theorem srcS_fls : srcS (.fls xs) S = .ok (.tmp xs) S := id rfl
theorem srcS_ref {k : Nat} (h : S[k]? = some (.lst xs)) : srcS (.ref k) S = .ok (.st k xs) S := srcL_ref h
/-- data that are walked -/
noncomputable def isSq (d : D) (xs : List D) : Prop := d = .tup xs ∨ d = .lst xs ∨ d = .fls xs
theorem forS {d : D} (hf : f e S = .ok d S) (h : isSq d xs) : sFor dead tg (iS f) a e S = forD dead tg (.tmp xs) a xs e S := by
  rcases h with rfl | rfl | rfl <;> · rw [ap_For, ap_iS, hf, Res.bind_ok]; rfl
theorem forS_tup (hf : f e S = .ok (.tup xs) S) : sFor dead tg (iS f) a e S = forD dead tg (.tmp xs) a xs e S := forS hf (.inl rfl)
theorem forS_lst (hf : f e S = .ok (.lst xs) S) : sFor dead tg (iS f) a e S = forD dead tg (.tmp xs) a xs e S := forS hf (.inr (.inl rfl))
theorem nLcS {d : D} (hf : f e S = .ok d S) (h : isSq d xs) (hl : xs.length < 1048576) (q : lcD tg (.tmp xs) t g (wipeE e vs) xs S = .ok ys S) : nLc vs tg (iS f) t g e S = .ok (.lst ys) S := by
  have e1 : iS f e S = .ok (.tmp xs) S := by
    rcases h with rfl | rfl | rfl <;> · rw [ap_iS, hf, Res.bind_ok]; rfl
  rw [ap_Lc, e1, Res.bind_ok]
  simp only [Src.items_tmp]
  rw [if_pos (Nat.le_of_lt (sz hl)), q, Res.bind_ok]
theorem nLcS_lst (hf : f e S = .ok (.lst xs) S) (hl : xs.length < 1048576) (q : lcD tg (.tmp xs) t g (wipeE e vs) xs S = .ok ys S) : nLc vs tg (iS f) t g e S = .ok (.lst ys) S := nLcS hf (.inr (.inl rfl)) hl q
/-- over a range -/
theorem nLcR1 {n : Nat} (hf : f e S = .ok (.int n) S) (hl : n < 1048576) (q : lcD tg (.tmp (rngD 0 n)) t g (wipeE e vs) (rngD 0 n) S = .ok ys S) : nLc vs tg (iR1 f) t g e S = .ok (.lst ys) S := by
  rw [ap_Lc, ap_iR1, hf, Res.bind_ok, srcR1_ap, if_pos (rg hl), Res.bind_ok]
  simp only [Src.items_tmp]
  rw [if_pos (Nat.le_of_lt (sz (by simp; omega))), q, Res.bind_ok]
end
theorem intsD_map {f : List Int → D} {ns : List Int} {S : Sto} : intsD f [.lst (ns.map D.int)] S = .ok (f ns) S := by
  simp only [intsD, lsOf_lst, Option.bind_some, Pu.ints_map]
theorem rpRow : Rp rowD 1 := Rp.int.pr Rp.int
theorem rng_map {n : Nat} : rngD 0 n = (List.range n).map fun k : Nat => D.int (k : Int) := by
  simp [rngD]
theorem cut_from {α : Type} {xs : List α} {a : Nat} : cutL xs (some (a : Int)) none = xs.drop a := by
  unfold cutL
  rw [HT.sIx_nat, HT.sIx_none]
  by_cases h : a ≤ xs.length
  · rw [Nat.min_eq_left h, List.take_of_length_le (by simp)]
  · rw [Nat.min_eq_right (by omega), List.drop_of_length_le (Nat.le_refl _), List.drop_of_length_le (by omega)]
    simp
theorem cut_to {α : Type} {xs : List α} {a : Nat} : cutL xs none (some (a : Int)) = xs.take a := by
  unfold cutL
  rw [HT.sIx_nat, HT.sIx_none, List.drop_zero, Nat.sub_zero]
  by_cases h : a ≤ xs.length
  · rw [Nat.min_eq_left h]
  · rw [Nat.min_eq_right (by omega), List.take_of_length_le (Nat.le_refl _), List.take_of_length_le (by omega)]
theorem cut_mid {α : Type} {xs : List α} {a b : Nat} (h : a ≤ b) : cutL xs (some (a : Int)) (some (b : Int)) = (xs.drop a).take (b - a) := by
  unfold cutL
  rw [HT.sIx_nat, HT.sIx_nat]
  by_cases h1 : a ≤ xs.length
  · rw [Nat.min_eq_left h1]
    by_cases h2 : b ≤ xs.length
    · rw [Nat.min_eq_left h2]
    · rw [Nat.min_eq_right (by omega), List.take_of_length_le (by simp), List.take_of_length_le (by simp; omega)]
  · rw [Nat.min_eq_right (show xs.length ≤ a by omega), List.drop_of_length_le (Nat.le_refl _), List.drop_of_length_le (show xs.length ≤ a by omega)]
    simp
@[simp] theorem slD_tup {xs : List D} {lo hi : Option Int} {S : Sto} : slD (.tup xs) lo hi S = .ok (.tup (cutL xs lo hi)) S := id rfl
@[simp] theorem slD_lst {xs : List D} {lo hi : Option Int} {S : Sto} : slD (.lst xs) lo hi S = .ok (.lst (cutL xs lo hi)) S := id rfl
theorem addL {xs ys : List D} {S : Sto} (h : xs.length + ys.length < 1000000) : addD (.lst xs) (.lst ys) S = .ok (.lst (xs ++ ys)) S := by
  have e : addD (.lst xs) (.lst ys) S = catL (some xs) (some ys) S := rfl
  rw [e]
  unfold catL
  simp only
  rw [if_pos (Nat.le_of_lt (sz (by omega)))]
theorem popD_ref {k n : Nat} {i : Int} {xs : List D} {y : D} {S : Sto} (h : S[k]? = some (.lst xs)) (hi : i = (n : Int)) (hn : n < 1048576) (hy : xs[n]? = some y) : popD (.ref k) [.int i] S = .ok y (S.set k (.lst (xs.eraseIdx n))) := by
  subst hi
  have hl : n < xs.length := (List.getElem?_eq_some_iff.mp hy).1
  have e : ixN xs.length (n : Int) = some n := by
    unfold ixN
    rw [if_pos (by omega), if_pos (by omega)]
    rfl
  simp only [popD, h, e, hy]
  rw [if_pos (by omega)]
end Pu
set_option Elab.async false
set_option linter.all false
set_option maxRecDepth 100000
namespace Pu
open PySem PySem.Spec PyProof.Rows L2
noncomputable def getD2 (o i z : D) (S : Sto) : Res D := match dcOf S o with
  | some kvs => match keyOf i with
    | some k => .ok ((getK kvs k).getD z) S
    | none => .bad
  | none => .bad
noncomputable def eGet (f g h : Ev D) : Ev D := fun e S => (f e S).bind fun o S => if (dcOf S o).isSome = true then (g e S).bind fun i S => (h e S).bind fun z S => getD2 o i z S else .bad
section
variable {f g h : Ev D} {e : En} {S : Sto}
@[simp] theorem ap_Get : eGet f g h e S = (f e S).bind fun o S => if (dcOf S o).isSome = true then (g e S).bind fun i S => (h e S).bind fun z S => getD2 o i z S else .bad := id rfl
end
noncomputable def putAll : List Nat → List D → En → Option En
  | [], [], e => some e
  | i :: is, d :: ds, e => putAll is ds (e.set i (some d))
  | _, _, _ => none
noncomputable def sPar (is : List Nat) (fs : List (Ev D)) : Stm := fun e S => (eArgs fs e S).stm e fun ds S => match putAll is ds e with
  | some e' => .next e' S
  | none => .bad
section
variable {cl : Str → Addr} {W : WX} {X : Cx} {a b c : Expr} {f g h : Ev D} {x y z : Str} {px py pz pt pt2 pos : Pos} {kt k2 : Nat}
@[simp] theorem ap_Par {is : List Nat} {fs : List (Ev D)} {e : En} {S : Sto} : sPar is fs e S = (eArgs fs e S).stm e fun ds S => match putAll is ds e with
  | some e' => .next e' S
  | none => .bad := id rfl
@[simp] theorem putAll_nil {e : En} : putAll [] [] e = some e := id rfl
@[simp] theorem putAll_cons {i : Nat} {is : List Nat} {d : D} {ds : List D} {e : En} : putAll (i :: is) (d :: ds) e = putAll is ds (e.set i (some d)) := id rfl
end
end Pu
set_option Elab.async false
set_option linter.all false
set_option maxRecDepth 100000
namespace Pu
open PySem PySem.Spec PyProof.Rows L2
theorem FitMul.ok {i j : Int} (h : FitMul i j) : IntMulOk i j := by
  rcases h with h | h | h
  · exact CMul.ok (.inl h)
  · exact CMul.ok (.inr h)
  · exact CMulX.ok h
section
variable {cl : Str → Addr} {W : WX} {X : Cx} {a : Expr} {f : Ev D} {pos : Pos} {x : Str}
theorem qe_gInt {i : Int} (hg : Gl X x) (hm : ∃ t, X.mg x = some (.int i t)) (hd : (x == ("__debug__" : Str)) = false := by decide) : QE cl W X (.Name x pos) (eC (.int i)) := by
  obtain ⟨t, e⟩ := hm
  exact qe_glob (v := .int i) hg e ⟨t, rfl⟩ (fun _ _ => .int i) hd
theorem qe_gStr {i : Str} (hg : Gl X x) (hm : ∃ t, X.mg x = some (.str i t)) (hd : (x == ("__debug__" : Str)) = false := by decide) : QE cl W X (.Name x pos) (eC (.str i)) := by
  obtain ⟨t, e⟩ := hm
  exact qe_glob (v := .str i) hg e ⟨t, rfl⟩ (fun _ _ => .str i) hd
end
end Pu
set_option Elab.async false
set_option linter.all false
set_option maxRecDepth 100000
namespace Pu
open PySem PySem.Spec PyProof.Rows L2
noncomputable def enumL (xs : List D) : List D := (List.range xs.length).map fun i => .tpi [.int (i : Nat), xs[i]?.getD .non]
theorem enumL_get {xs : List D} {i : Nat} {d : D} (h : (enumL xs)[i]? = some d) : ∃ x, xs[i]? = some x ∧ d = .tpi [.int (i : Nat), x] := by
  unfold enumL at h
  have hi : i < xs.length := by
    have := (List.getElem?_eq_some_iff.mp h).1
    simpa using this
  rw [List.getElem?_map, List.getElem?_range hi] at h
  refine ⟨xs[i], List.getElem?_eq_getElem hi, ?_⟩
  have := Option.some.inj h
  rw [← this]
  simp only [List.getElem?_eq_getElem hi, Option.getD_some]
section
variable {cl : Str → Addr} {W : WX} {X : Cx} {a b : Expr} {f g : Ev D} {p pos tpos : Pos} {elts : List Expr} {kk : Nat}
theorem enum_ok {K : PySem.W.Frag} {am : AM} {H : Hp} {l : Addr} {xs : List D} (h : ∀ (am' : AM) (H' : Hp) (S' : Sto), Grow am am' H H' → RelS K cl am' S' H' → ∃ vs, SqL K H' l vs ∧ VRs K am' H' xs vs) : SrcJ K cl (.tmp (enumL xs)) am H (Ite K l) := by
  intro am' H' S' g rs _
  obtain ⟨vs, h1, h2⟩ := h am' H' S' g rs
  refine ⟨fun i d hd => ?_, fun i hi => ⟨vs, h1, by rw [← h2.length]; simpa [enumL] using hi⟩⟩
  obtain ⟨x, hx, rfl⟩ := enumL_get hd
  obtain ⟨v, hv, rv⟩ := h2.get hx
  refine ⟨⟨vs, v, h1, hv⟩, fun y H2 hy => ?_⟩
  obtain ⟨T, z, rfl, hT, rfl, hz⟩ := hy
  have e : z = v := Option.some.inj ((hz vs h1).symm.trans hv)
  subst e
  exact ⟨am', Grow.upd hT, rs.upd hT, VR.tpiNew rs (.cons (.int _) (.cons rv .nil)) hT⟩
noncomputable def zipL (xs ys : List D) : List D := List.zipWith (fun x y => .tpi [x, y]) xs ys
noncomputable def stL : D → Option (List D)
  | .lst xs => some xs
  | .fls xs => some xs
  | _ => none
noncomputable def srcZp (ds : List D) (S : Sto) : Res Src := match ds with
  | [.tup xs, .tup ys] => .ok (.tmp (zipL xs ys)) S
  | [x, y] => match stL x, stL y with
    | some xs, some ys => .ok (.tmp (zipL xs ys)) S
    | _, _ => .bad
  | _ => .bad
noncomputable def iZp (f g : Ev D) : Ev Src := fun e S => (eArgs [f, g] e S).bind srcZp
theorem zipL_get {xs ys : List D} {i : Nat} {d : D} (h : (zipL xs ys)[i]? = some d) : ∃ x y, xs[i]? = some x ∧ ys[i]? = some y ∧ d = .tpi [x, y] := by
  unfold zipL at h
  rw [List.getElem?_zipWith] at h
  cases e1 : xs[i]? with
  | none => rw [e1] at h; cases h
  | some x =>
    cases e2 : ys[i]? with
    | none => rw [e1, e2] at h; cases h
    | some y => rw [e1, e2] at h; cases h; exact ⟨x, y, rfl, rfl, rfl⟩
theorem zipT_ok {K : PySem.W.Frag} {am : AM} {H : Hp} {l m : Addr} {xs ys : List D} (h : ∀ (am' : AM) (H' : Hp) (S' : Sto), Grow am am' H H' → RelS K cl am' S' H' → ∃ vs us, SqT K H' l vs ∧ SqT K H' m us ∧ VRs K am' H' xs vs ∧ VRs K am' H' ys us) : SrcJ K cl (.tmp (zipL xs ys)) am H (RZ.ItzT K l m) := by
  intro am' H' S' g rs _
  obtain ⟨vs, us, h1, h2, h3, h4⟩ := h am' H' S' g rs
  refine ⟨fun i d hd => ?_, fun i hi => ⟨vs, us, h1, h2, ?_⟩⟩
  · obtain ⟨x, y, hx, hy, rfl⟩ := zipL_get hd
    obtain ⟨v, hv, rv⟩ := h3.get hx
    obtain ⟨u, hu, ru⟩ := h4.get hy
    refine ⟨⟨vs, us, v, u, h1, h2, hv, hu⟩, fun z H2 hz => ?_⟩
    obtain ⟨T, v', u', rfl, hT, rfl, k1, k2⟩ := hz
    have e : v' = v := Option.some.inj ((k1 vs h1).symm.trans hv)
    have e' : u' = u := Option.some.inj ((k2 us h2).symm.trans hu)
    subst e e'
    exact ⟨am', Grow.upd hT, rs.upd hT, VR.tpiNew rs (.cons rv (.cons ru .nil)) hT⟩
  · rw [← h3.length, ← h4.length]
    simp only [Src.items_tmp, zipL, List.length_zipWith] at hi
    omega
theorem zipL_ok {K : PySem.W.Frag} {am : AM} {H : Hp} {l m : Addr} {xs ys : List D} (h : ∀ (am' : AM) (H' : Hp) (S' : Sto), Grow am am' H H' → RelS K cl am' S' H' → ∃ vs us, SqL K H' l vs ∧ SqL K H' m us ∧ VRs K am' H' xs vs ∧ VRs K am' H' ys us) : SrcJ K cl (.tmp (zipL xs ys)) am H (Itz K l m) := by
  intro am' H' S' g rs _
  obtain ⟨vs, us, h1, h2, h3, h4⟩ := h am' H' S' g rs
  refine ⟨fun i d hd => ?_, fun i hi => ⟨vs, us, h1, h2, ?_⟩⟩
  · obtain ⟨x, y, hx, hy, rfl⟩ := zipL_get hd
    obtain ⟨v, hv, rv⟩ := h3.get hx
    obtain ⟨u, hu, ru⟩ := h4.get hy
    refine ⟨⟨vs, us, v, u, h1, h2, hv, hu⟩, fun z H2 hz => ?_⟩
    obtain ⟨T, v', u', rfl, hT, rfl, k1, k2⟩ := hz
    have e : v' = v := Option.some.inj ((k1 vs h1).symm.trans hv)
    have e' : u' = u := Option.some.inj ((k2 us h2).symm.trans hu)
    subst e e'
    exact ⟨am', Grow.upd hT, rs.upd hT, VR.tpiNew rs (.cons rv (.cons ru .nil)) hT⟩
  · rw [← h3.length, ← h4.length]
    simp only [Src.items_tmp, zipL, List.length_zipWith] at hi
    omega
/-- a list by its data stands still -/
theorem stL_ok {K : PySem.W.Frag} {am : AM} {H : Hp} {d : D} {v : V} {xs : List D} (r : VR K am H d v) (e : stL d = some xs) : ∃ l vs, v = .ref l ∧ SqL K H l vs ∧ ∀ (am' : AM) (H' : Hp), Grow am am' H H' → SqL K H' l vs ∧ VRs K am' H' xs vs := by
  cases r with
  | @lst l vs ys h1 h2 h3 => cases e; exact ⟨l, vs, rfl, .inl (.inl h1), fun am' H' g => ⟨.inl (.inl (g.ext.keep _ _ h1 h2).1), h3.mono g⟩⟩
  | @fls l vs ys h1 h3 => cases e; exact ⟨l, vs, rfl, h1.seq, fun am' H' g => ⟨(h1.ext g.ext).seq, h3.mono g⟩⟩
  | _ => cases e
theorem qi_zip (hg : Gl X "zip") (hm : X.mg "zip" = none) (ha : QE cl W X a f) (hb : QE cl W X b g) (hs : starEach [a, b] X.env = (false, eval a X.env) :: starEach [b] X.env := by rfl) (h0 : starEach [b] X.env = (false, eval b X.env) :: starEach [] X.env := by rfl) (hpl : (backTo pos (starEach [b] X.env)).any (·.1) = false := by rfl) :
    QI cl W X (.Tuple elts kk tpos) (.Call (.Name "zip" p) [a, b] [] pos) (iZp f g) :=
  (RZ.pi_zipA hg hm (qa_cons ha (qa_cons hb qa_nil h0) hs) hs hpl).imp fun σ H R ⟨am, e, S, rs, re, q0⟩ =>
    ⟨am, e, S, rs, re, (Post.step q0).imp fun xs H1 ⟨am1, S1, ds, ee, g1, rs1, rvs, p1⟩ => by
      have hl := eArgs_len ee
      match ds, hl, rvs with
      | [d1, d2], _, .cons (v := v1) r1 (.cons (v := v2) r2 .nil) =>
        have two : ∀ {R : It → Hp → Prop}, Post X.K cl W σ (fun am H (s : Src) (J : It) => SrcJ X.K cl s am H J) am1 H1 (match stL d1, stL d2 with
            | some xs, some ys => .ok (.tmp (zipL xs ys)) S1
            | _, _ => .bad) R → ∃ l m vs us, [v1, v2] = [V.ref l, V.ref m] ∧ SqL X.K H1 l vs ∧ SqL X.K H1 m us ∧ R (Itz X.K l m) H1 := fun q => by
          cases e1 : stL d1 with
          | none => rw [e1] at q; exact q.elim
          | some xs =>
            cases e2 : stL d2 with
            | none => rw [e1, e2] at q; exact q.elim
            | some ys =>
              rw [e1, e2] at q
              obtain ⟨l, vs, rfl, a1, a2⟩ := stL_ok r1 e1
              obtain ⟨m, us, rfl, b1, b2⟩ := stL_ok r2 e2
              exact ⟨l, m, vs, us, rfl, a1, b1, q am1 _ H1 .refl rs1 (zipL_ok fun am' H' S' g rs => ⟨vs, us, (a2 am' H' g).1, (b2 am' H' g).1, (a2 am' H' g).2, (b2 am' H' g).2⟩)⟩
        have fin2 : ∀ {R : It → Hp → Prop}, (∃ l m vs us, [v1, v2] = [V.ref l, V.ref m] ∧ SqL X.K H1 l vs ∧ SqL X.K H1 m us ∧ R (Itz X.K l m) H1) → ∃ l m vs us, [v1, v2] = [V.ref l, V.ref m] ∧ ((SqL X.K H1 l vs ∧ SqL X.K H1 m us ∧ R (Itz X.K l m) H1) ∨ (SqT X.K H1 l vs ∧ SqT X.K H1 m us ∧ R (RZ.ItzT X.K l m) H1)) := fun ⟨l, m, vs, us, e, a1, a2, a3⟩ => ⟨l, m, vs, us, e, .inl ⟨a1, a2, a3⟩⟩
        cases r1 with
        | @tup l vs xs t1 s1 =>
          cases r2 with
          | @tup m us ys t2 s2 =>
            exact ⟨l, m, vs, us, rfl, .inr ⟨t1.seq, t2.seq, p1 am1 _ H1 .refl rs1 (zipT_ok fun am' H' S' g rs => ⟨vs, us, (t1.ext g.ext).seq, (t2.ext g.ext).seq, s1.mono g, s2.mono g⟩)⟩⟩
          | _ => exact fin2 (two p1)
        | _ => exact fin2 (two p1)⟩
end
end Pu
set_option Elab.async false
set_option linter.all false
set_option maxRecDepth 100000
set_option maxHeartbeats 4000000
namespace Pu
open PySem PySem.Spec PyProof.Rows L2
end Pu
set_option Elab.async false
set_option linter.all false
set_option maxRecDepth 100000
namespace Pu
open PySem PySem.Spec PyProof.Rows L2
noncomputable def eBits (f : Ev D) : Ev D := fun e S => (f e S).bind fun d S => match d with
  | .int i => .ok (.int (Builtin.Int.intBits i : Nat)) S
  | _ => .bad
noncomputable instance (a b : Int) : Decidable (RgOk a b) := by unfold RgOk; infer_instance
noncomputable def rgN (i j : Int) (S : Sto) : Res DO := if RgOk i j then .ok (.lst (rngD i j)) S else .bad
noncomputable def nRg1 (f : Ev D) : Ev DO := fun e S => (f e S).bind fun d S => match d with
  | .int i => rgN 0 i S
  | _ => .bad
theorem rg_vrs {K : PySem.W.Frag} {am : AM} {H : Hp} (i j : Int) : VRs K am H (rngD i j) (rgV i j) := by
  unfold rngD rgV
  generalize List.range (j - i).toNat = l
  induction l with
  | nil => exact .nil
  | cons a l ih => exact .cons (.int _) ih
section
variable {cl : Str → Addr} {W : WX} {X : Cx} {a b : Expr} {f g : Ev D} {p p2 apos pos pos2 : Pos}
theorem rg_ok {am : AM} {H : Hp} {S : Sto} {σ : L2.St} {i j : Int} {Q : VK} (rs : RelS X.K cl am S H) {am0 : AM} {H0 : Hp} (g : Grow am0 am H0 H) (p : PostN X.K cl W σ am0 H0 (rgN i j S) Q) : RgOk i j ∧ ∀ q, H q = none → Q (.ref q) (upd H q (.lst (rgV i j))) := by
  unfold rgN at p
  by_cases h : RgOk i j
  · rw [if_pos h] at p
    exact ⟨h, fun q hq => PostN.laid p g rs hq ⟨_, upd_same, rg_vrs i j⟩⟩
  · rw [if_neg h] at p
    exact p.elim
theorem qn_rg1 (hc : X.calm = true) (hg : Gl X "list") (hm : X.mg "list" = none) (hg2 : Gl X "range") (hm2 : X.mg "range" = none) (ha : QE cl W X a f)
    (na : starEach [a] X.env = (false, eval a X.env) :: starEach [] X.env := by rfl) (nb : starEach [.Call (.Name "range" p2) [a] [] pos2] X.env = (false, eval (.Call (.Name "range" p2) [a] [] pos2) X.env) :: starEach [] X.env := by rfl) :
    QN cl W X (.Call (.Name "list" p) [.Call (.Name "range" p2) [a] [] pos2] [] pos) (nRg1 f) :=
  (pe_listRg hc hg hm (prg_1 hg2 hm2 ha na) nb).imp fun σ H Q ⟨am, e, S, rs, re, q0⟩ =>
    ⟨am, e, S, rs, re, (PostN.step q0).imp fun x H1 ⟨am1, S1, d, _, g1, rs1, rv, p1⟩ => by
      cases rv with
      | int i => exact ⟨i, rfl, rg_ok rs1 g1 p1⟩
      | _ => exact p1.elim⟩
/-- a statement that is never reached -/
noncomputable def sBad : Stm := fun _ _ => .bad
theorem qs_bad {st : Stmt} : QS cl W X st sBad := ⟨fun pins s σ H E I ⟨am, e, S, rs, re, p⟩ => p.elim⟩
end
@[simp] theorem ap_bits : eBits f e S = (f e S).bind fun d S => match d with
  | .int i => .ok (.int (Builtin.Int.intBits i : Nat)) S
  | _ => .bad := id rfl
theorem nRg1_ok {f : Ev D} {e : En} {S : Sto} {i : Int} (h : f e S = .ok (.int i) S) (h0 : -1000000 < i) (h1 : i < 1048576) : nRg1 f e S = .ok (.lst (rngD 0 i)) S := by
  unfold nRg1 rgN
  rw [h, Res.bind_ok]
  simp only
  rw [if_pos (by unfold RgOk; omega)]
end Pu
set_option Elab.async false
set_option linter.all false
set_option maxRecDepth 100000
set_option maxHeartbeats 4000000
namespace Pu
open PySem PySem.Spec PyProof.Rows L2
noncomputable abbrev enuO (z : Addr) : Obj := { cls := .type "enumerate", data := .fields #[.none, .bool false, .ref z, rawInt 0, .none, .none] }
theorem enum_new {v : Value} {o : Obj} {C : Heap → Prop} (B : Begins v o C) :
    Meets (Builtin.«enumerate.__new__» ⟨[.type "enumerate", v], []⟩) (fun _ R s => C s.heap ∧ R (.ok (.ret (.ref (s.heap.push o).objs.size))) { s with heap := (s.heap.push o).push (enuO s.heap.objs.size) }) :=
  .of_wp fun prog w A R s h => by
    obtain ⟨hp, gs, dr, tk, os⟩ := s
    obtain ⟨hC, h⟩ := h
    have hsub := sub_enumerate
    have it1 : ∀ {A' : Around} {E : Value → Shared → Prop} {Q : Value → Shared → Prop}, Q (.ref hp.objs.size) ⟨hp.push o, gs, dr, tk, os⟩ → wpAny (model prog w) A' (pyIter v) Q E ⟨hp, gs, dr, tk, os⟩ := fun q => B.iter prog w _ _ _ _ hC q
    wp_walk using it1
    refine wpAny_stack_any fun st => wpAny_pure ?_
    split
    · rename_i c _ _ _ _ _
      cases (c == Value.type "enumerate") <;> (wp_walk using it1; exact ⟨_, rfl, h⟩)
    · wp_walk using it1
      exact ⟨_, rfl, h⟩
section
variable {prog : Program} {w : World} {A : Around} {E : Value → Shared → Prop} {s : Shared}
theorem enum_call {v : Value} {o : Obj} {C : Heap → Prop} {Q : Value → Shared → Prop} (B : Begins v o C) (hC : C s.heap)
    (h : ∀ h', IsEnum h' (s.heap.objs.size + 1) s.heap.objs.size 0 .none → h'.get? s.heap.objs.size = some o → (∀ b u, s.heap.get? b = some u → h'.get? b = some u) → Q (.ref (s.heap.objs.size + 1)) { s with heap := h' }) :
    wpAny (model prog w) A (call (.type "enumerate") [v]) Q E s := by
  refine callType_new F.called_enumerate (by decide) (F.typeCall_enumerate_1 _) (F.newCall_enumerate_1 _) (fun u => F.args_object_init_2 u _) F.entry_enumerate_new (enum_new B) ⟨hC, ?_⟩
  have hz : (s.heap.push o).objs.size = s.heap.objs.size + 1 := Heap.size_push ..
  show _ ∧ _
  rw [hz]
  have en : IsEnum ((s.heap.push o).push (enuO s.heap.objs.size)) (s.heap.objs.size + 1) s.heap.objs.size 0 .none := by
    have q := Heap.get?_push_size (s.heap.push o) (o := enuO s.heap.objs.size) rfl
    rw [hz] at q
    exact q
  exact ⟨⟨_, en, rfl⟩, h _ en (Heap.get?_push_of_some _ (Heap.get?_push_size _ B.free)) fun b u q => Heap.get?_push_of_some _ (Heap.get?_push_of_some _ q)⟩
end
theorem enuT_end {prog : Program} {w : World} {A : Around} {E : Value → Shared → Prop} {s : Shared} {e it a : Addr} {i : Nat} {c : Int} {xs : Array Value} {old : Value} {Q : Option Value → Shared → Prop} (hh : A.in1.handled = none)
    (he : IsEnum s.heap e it c old) (hi : s.heap.IsTupleIter it a i) (ha : s.heap.IsTuple a xs) (hx : xs[i]? = none) (h : ∀ h', Heap.ExtBut it s.heap h' → Q none { s with heap := h' }) : wpAny (model prog w) A (pyNext (.ref e)) Q E s := by
  have ty : s.TypeIs (.ref e) "enumerate" := ⟨_, he, rfl⟩
  unfold pyNext
  refine wpAny_bind (wpAny_attempt ?_)
  refine wpAny_callSpecial?_slot (name := Str.ofString "__next__") ty F.slot_enumerate_next (wpAny_call_entry F.slot_enumerate_next ty F.entry_enumerate_next ?_ (F.args_enumerate_next_1 _))
  show wpAny _ _ (field (.ref e) 2 >>= _) _ _ _
  refine wpAny_bind (wpAny_field he rfl (x := .ref it) rfl (wpAny_bind ?_))
  refine wpAny_nextOf_tuple_end hh hi ha hx fun h' x q1 q2 => ?_
  obtain ⟨o, ho, hc⟩ := q2
  exact wpAny_bind (wpAny_isInstance (T := "StopIteration") (b := true) ⟨o, ho, hc⟩ isSubtype_stop (wpAny_pure (h _ q1)))
/-- the tuple at a as it stands at each turn, each item in a new pair -/
noncomputable def IteT (K : PySem.W.Frag) (a : Addr) : It :=
  ⟨fun i H => ∃ (xs : List V) (x : V), SqT K H a xs ∧ xs[i]? = some x, fun i H v H' => ∃ T x, v = .ref T ∧ H T = none ∧ H' = upd H T (.tup [.int (i : Nat), x]) ∧ ∀ xs, SqT K H a xs → xs[i]? = some x, fun i H => ∃ xs : List V, SqT K H a xs ∧ xs.length ≤ i⟩
theorem turn_enuT {P : Program} {w : World} {K : PySem.W.Frag} {elts : List Expr} {kk : Nat} {tpos : Pos} (a e it : Addr) :
    Turn P w K (.Tuple elts kk tpos) (IteT K a) [e, it] e (fun i h => (∃ old, IsEnum h e it ((i : Nat) : Int) old) ∧ h.IsTupleIter it a i ∧ e ≠ it ∧ a ≠ it ∧ a ≠ e) where
  mem := by simp
  obj := fun i h st b hb => by
    obtain ⟨⟨old, he⟩, ⟨u, hu, _, hd⟩, _⟩ := st
    rcases (show b = e ∨ b = it by simpa using hb) with z | z
    · rw [z]
      exact ⟨_, he, fun v q => nomatch q⟩
    · rw [z]
      exact ⟨u, hu, fun v q => by rw [hd] at q; cases q⟩
  keep := fun i h h' st k => by
    obtain ⟨⟨old, he⟩, hi, hn⟩ := st
    exact ⟨⟨old, k e (by simp) _ he⟩, hi.at fun o q => k it (by simp) o q, hn⟩
  item := by
    intro X hP hw hK hc i pins s σ H E I hf st hg
    subst hP hw hK
    obtain ⟨⟨old, he⟩, hit, hne, ha1, ha2⟩ := st
    obtain ⟨xs, x, hq, hx⟩ := hg
    obtain ⟨its, rv, p, hz⟩ := I.tuple hq
    obtain ⟨u, hu, ru⟩ := rv.get hx
    have hel : e < s.heap.objs.size := Heap.lt_size he
    have hil : it < s.heap.objs.size := by
      obtain ⟨_, q, _⟩ := hit
      exact Heap.lt_size q
    have hlt : i < its.toArray.size := by
      have := (List.getElem?_eq_some_iff.mp hu).1
      simpa using this
    have D := Draws.tuple (prog := X.prog) (w := X.w) (A := X.A.in1) (show X.A.in1.handled = none from I.ok.hd hc) it a ha1 its.toArray
    refine wpAny_pyNext_enum_itemD D he ⟨hit, show s.heap.IsTuple a its.toArray from p⟩ hlt hne (by simp [hne, Ne.symm ha2]) fun y h' tk hy ho hst hT hsz hk => ?_
    have ey : y = u := by
      have h1 : its.toArray[i]? = some y := hy
      have h2 : its.toArray[i]? = some u := by simpa using hu
      rw [h1] at h2
      exact Option.some.inj h2
    subst ey
    refine ⟨_, rfl, wpAny_letOwnedTupleGo_enum (s := { s with heap := h', toks := tk + 1 }) ho fun h'' he' sb => ?_⟩
    have hT2 := (sb.2 _ (Nat.ne_of_gt hel)).trans hT
    have new : ObjOk X.prog X.w (upd H s.heap.objs.size (.tup [.int (i : Nat), x])) h'' s.heap.objs.size (.tup [.int (i : Nat), x]) :=
      ⟨by show 2 ≤ sizeLine; decide, [.int i tk, y], .cons ⟨_, rfl⟩ (.cons ru .nil), ⟨_, hT2, rfl, _, rfl⟩⟩
    have I1 : Inv X pins σ (upd H s.heap.objs.size (.tup [.int (i : Nat), x])) { s with heap := h'', toks := tk + 1 } :=
      I.turnedNew (ch := [e, it]) (fun b o hb q => (sb.2 b (fun z => hb (by simp [z]))).trans (hk b o (fun z => hb (by simp [z])) (fun z => hb (by simp [z])) q)) hf (Nat.le_refl _) new
    refine ⟨.ref s.heap.objs.size, _, I1, rfl, ⟨_, x, rfl, I.hok.fresh (Nat.le_refl _), rfl, fun ys hy => by rw [I.tuple_inj hy hq]; exact hx⟩, ⟨⟨y, ?_⟩, hst.1.at fun o q => (sb.2 it (Ne.symm hne)).trans q, hne, ha1, ha2⟩, fun b hb => ?_⟩
    · rw [show ((i + 1 : Nat) : Int) = (i : Int) + 1 by omega]
      exact he'
    · have hb' : b < s.heap.objs.size := by
        rcases (show b = e ∨ b = it by simpa using hb) with z | z
        · rw [z]; exact hel
        · rw [z]; exact hil
      rw [upd_ne (Nat.ne_of_lt hb')]
      exact (hf b hb).1
  done := by
    intro X hP hw hK hc i pins s σ H E I hf st hg
    subst hP hw hK
    obtain ⟨⟨old, he⟩, hit, hne, ha1, ha2⟩ := st
    obtain ⟨xs, hq, hx⟩ := hg
    obtain ⟨its, rv, p, hz⟩ := I.tuple hq
    obtain ⟨f0, f1, f2, f3, f4, f5⟩ := hf it (by simp)
    have hl := rv.length
    exact enuT_end (show X.A.in1.handled = none from I.ok.hd hc) he hit (show s.heap.IsTuple a its.toArray from p) (by simp; omega) fun h' eb => ⟨rfl, I.turned (t' := s.toks) (fun b o hb q => eb b o hb q) f0 f1 f3 f4 f5⟩
  self := fun A i s Q E st h => by
    obtain ⟨⟨_, he⟩, _⟩ := st
    exact wpAny_pyIter_enum he h
noncomputable def iEnuT (K : PySem.W.Frag) (te : TE) : TI := fun σ H R => te σ H fun x H1 => ∃ a xs, x = .ref a ∧ ((SqL K H1 a xs ∧ R (Ite K a) H1) ∨ (SqT K H1 a xs ∧ R (IteT K a) H1))
theorem pi_enuA {X : Cx} {e : Expr} {te : TE} {p pos tpos : Pos} {elts : List Expr} {kk : Nat} (hg : Gl X "enumerate") (hm : X.mg "enumerate" = none) (he : PE X e te) (na : starEach [e] X.env = (false, eval e X.env) :: starEach [] X.env := by rfl) :
    PI X (.Tuple elts kk tpos) (.Call (.Name "enumerate" p) [e] [] pos) (iEnuT X.K te) := by
  refine ⟨fun pins s σ H R I h => ?_⟩
  refine Call_ (ld_blt I hg hm boot_enumerate (PyProof.Rows.callWith_type1 (one_arg he I h (fun v s1 x H1 I1 r1 q1 => ?_) na) na))
  obtain ⟨a, xs, rfl, q1⟩ := q1
  obtain rfl : v = .ref a := r1
  have fp : ∀ b, b ∈ [s1.heap.objs.size + 1, s1.heap.objs.size] → FpOk X pins H1 b := fun b hb => by
    have hle : s1.heap.objs.size ≤ b := by
      rcases (show b = s1.heap.objs.size + 1 ∨ b = s1.heap.objs.size by simpa using hb) with z | z
      · rw [z]; exact Nat.le_add_right _ _
      · rw [z]; exact Nat.le_refl _
    exact I1.fpOk hle (I1.hok.fresh hle)
  rcases q1 with ⟨hq, q⟩ | ⟨hq, q⟩
  · obtain ⟨its, rv, pl, hz⟩ := I1.list hq
    refine enum_call (begins_list a its.toArray) pl.isList fun h' en hi hk => wpAny_pyIter_enum en ?_
    have I2 : Inv X pins σ H1 { s1 with heap := h' } := I1.kept (t' := s1.toks) hk
    exact ⟨s1.heap.objs.size + 1, [s1.heap.objs.size + 1, s1.heap.objs.size], _, _, H1, rfl, I2, turn_enum a (s1.heap.objs.size + 1) s1.heap.objs.size, ⟨⟨.none, en⟩, ⟨_, hi, rfl, rfl⟩, Nat.succ_ne_self _⟩, fp, q⟩
  · obtain ⟨its, rv, pl, hz⟩ := I1.tuple hq
    have hla : a < s1.heap.objs.size := by
      obtain ⟨o, ho, _⟩ := pl
      exact Heap.lt_size ho
    refine enum_call (begins_tuple a its.toArray) (show s1.heap.IsTuple a its.toArray from pl) fun h' en hi hk => wpAny_pyIter_enum en ?_
    have I2 : Inv X pins σ H1 { s1 with heap := h' } := I1.kept (t' := s1.toks) hk
    exact ⟨s1.heap.objs.size + 1, [s1.heap.objs.size + 1, s1.heap.objs.size], _, _, H1, rfl, I2, turn_enuT a (s1.heap.objs.size + 1) s1.heap.objs.size, ⟨⟨.none, en⟩, ⟨_, hi, rfl, rfl⟩, Nat.succ_ne_self _, Nat.ne_of_lt hla, Nat.ne_of_lt (Nat.lt_succ_of_lt hla)⟩, fp, q⟩
/-- enumerate of data that stand still -/
noncomputable def srcEA (d : D) (S : Sto) : Res Src := match d with
  | .lst xs => .ok (.tmp (enumL xs)) S
  | .fls xs => .ok (.tmp (enumL xs)) S
  | .tup xs => .ok (.tmp (enumL xs)) S
  | _ => .bad
noncomputable def iEA (f : Ev D) : Ev Src := fun e S => (f e S).bind srcEA
section
variable {cl : Str → Addr} {W : WX} {X : Cx} {a b : Expr} {f g : Ev D} {p pos tpos : Pos} {elts : List Expr} {kk : Nat}
theorem enuT_ok {K : PySem.W.Frag} {am : AM} {H : Hp} {l : Addr} {xs : List D} (h : ∀ (am' : AM) (H' : Hp) (S' : Sto), Grow am am' H H' → RelS K cl am' S' H' → ∃ vs, SqT K H' l vs ∧ VRs K am' H' xs vs) : SrcJ K cl (.tmp (enumL xs)) am H (IteT K l) := by
  intro am' H' S' g rs _
  obtain ⟨vs, h1, h2⟩ := h am' H' S' g rs
  refine ⟨fun i d hd => ?_, fun i hi => ⟨vs, h1, by rw [← h2.length]; simpa [enumL] using hi⟩⟩
  obtain ⟨x, hx, rfl⟩ := enumL_get hd
  obtain ⟨v, hv, rv⟩ := h2.get hx
  refine ⟨⟨vs, v, h1, hv⟩, fun y H2 hy => ?_⟩
  obtain ⟨T, z, rfl, hT, rfl, hz⟩ := hy
  have e : z = v := Option.some.inj ((hz vs h1).symm.trans hv)
  subst e
  exact ⟨am', Grow.upd hT, rs.upd hT, VR.tpiNew rs (.cons (.int _) (.cons rv .nil)) hT⟩
theorem qi_enuA (hg : Gl X "enumerate") (hm : X.mg "enumerate" = none) (ha : QE cl W X a f) (h0 : starEach [a] X.env = (false, eval a X.env) :: starEach [] X.env := by rfl) :
    QI cl W X (.Tuple elts kk tpos) (.Call (.Name "enumerate" p) [a] [] pos) (iEA f) :=
  (pi_enuA hg hm ha h0).imp fun σ H R ⟨am, e, S, rs, re, q0⟩ =>
    ⟨am, e, S, rs, re, (Post.step q0).imp fun x H1 ⟨am1, S1, d, _, g1, rs1, rv, p1⟩ => by
      cases rv with
      | @lst l vs ys h1 h2 h3 => exact ⟨l, vs, rfl, .inl ⟨.inl (.inl h1), p1 am1 _ H1 .refl rs1 (enum_ok fun am' H' S' g rs => ⟨vs, .inl (.inl (g.ext.keep _ _ h1 h2).1), h3.mono g⟩)⟩⟩
      | @fls l vs ys h1 h3 => exact ⟨l, vs, rfl, .inl ⟨h1.seq, p1 am1 _ H1 .refl rs1 (enum_ok fun am' H' S' g rs => ⟨vs, (h1.ext g.ext).seq, h3.mono g⟩)⟩⟩
      | @tup l vs ys h1 h3 => exact ⟨l, vs, rfl, .inr ⟨h1.seq, p1 am1 _ H1 .refl rs1 (enuT_ok fun am' H' S' g rs => ⟨vs, (h1.ext g.ext).seq, h3.mono g⟩)⟩⟩
      | _ => exact p1.elim⟩
end
@[simp] theorem ap_iEA {f : Ev D} {e : En} {S : Sto} : iEA f e S = (f e S).bind srcEA := id rfl
end Pu
set_option Elab.async false
set_option linter.all false
set_option maxRecDepth 100000
namespace Pu
open PySem PySem.Spec PyProof.Rows L2
end Pu
set_option Elab.async false
set_option linter.all false
set_option maxRecDepth 100000
namespace Pu
open PySem PySem.Spec PyProof.Rows L2
end Pu
set_option Elab.async false
set_option linter.all false
set_option maxRecDepth 100000
namespace Pu
open PySem PySem.Spec PyProof.Rows L2
section
variable {X : Cx}
theorem cr_or {c : Value} {r r' : List V → Hp → VK → Prop} (h : CallR X c r) (h' : CallR X c r') : CallR X c (fun vs H Q => r vs H Q ∨ r' vs H Q) := fun pins s σ H vs us Q I rv q => q.elim (h pins s σ H vs us Q I rv) (h' pins s σ H vs us Q I rv)
end
theorem intsL_map (ns : List Int) : intsL (ns.map D.int) = some ns := by
  induction ns with
  | nil => rfl
  | cons n ns ih =>
    show (intsL (ns.map D.int)).map (n :: ·) = _
    rw [ih]
    rfl
end Pu
set_option Elab.async false
set_option linter.all false
set_option maxRecDepth 100000
namespace Pu
open PySem PySem.Spec PyProof.Rows L2
theorem takesN {X : Cx} : L2N.Takes X (fun _ _ _ _ => False) := fun _ _ x => by
  obtain ⟨_, _, _, _, _, _, _, _, _, _, _, _, _, _, _, _, z⟩ := x
  exact z.elim
structure FnE (P : Program) (w : World) (K : PySem.W.Frag) (mg : Str → Option Value) (base : Heap) (k : Nat) (f : Addr) (fd : FuncData) (ps : List Str) (cl : Str → Addr) (c : Str) (v : Bool) : Prop where
  run : ∀ (A : Around) (outer : List PySem.Env) (s : Shared) (H : Hp) (args : Args) (us : List Value) (Q : VK) (E : XK) (p : Addr × Obj), L2H.RoomH k A → L2H.Hot1 A p → L2H.PinOk outer H s p → Env0 P w K mg base A outer s H → BindsTo s fd args (ps.zip us) → Vals [.ref p.1] us → L2N.Zn (.ref (cl c)) none p.2 →
    (∀ H', (∀ b o, H b = some o → H' b = some o) → Q (.bl v) H') → codeAny (model P w) A (.call (.ref f) args) (CR (L2N.CX P w) outer P w H s Q E) s
structure DefE (P : Program) (w : World) (K : PySem.W.Frag) (mg : Str → Option Value) (base : Heap) (cl : Str → Addr) (x : Str) (k : Nat) (ps : List Str) (c : Str) (v : Bool) : Prop where
  ex : ∃ f fd, FnE P w K mg base k f fd ps cl c v ∧ mg x = some (.ref f) ∧ PySem.W.keepIn K (.ref f) = true ∧ ∀ us : List Value, us.length = ps.length → bindArgs fd ⟨us, []⟩ = pure (ps.zip us)
section
variable {P : Program} {w : World} {K : PySem.W.Frag} {mg : Str → Option Value} {base : Heap} {cl : Str → Addr}
theorem DefE.mono {x : Str} {k j : Nat} {ps : List Str} {c : Str} {v : Bool} (d : DefE P w K mg base cl x k ps c v) (h : k ≤ j) : DefE P w K mg base cl x j ps c v :=
  let ⟨f, fd, a, b⟩ := d.ex
  ⟨f, fd, ⟨fun A outer s H args us Q E p hr => a.run A outer s H args us Q E p (hr.mono h)⟩, b⟩
end
end Pu
set_option Elab.async false
set_option linter.all false
set_option maxRecDepth 100000
set_option maxHeartbeats 2000000
namespace PySem
open PySem.Calls HotX
end PySem
namespace Pu
open PySem PySem.Spec PyProof.Rows L2
end Pu
set_option Elab.async false
set_option linter.all false
set_option maxRecDepth 100000
namespace Pu
open PySem PySem.Spec PyProof.Rows L2
section
variable {X : Cx}
noncomputable def rSumT (K : PySem.W.Frag) : List V → Hp → VK → Prop := fun vs H Q => ∃ (a : Addr) (ns : List Int), vs = [V.ref a] ∧ SqT K H a (ns.map V.int) ∧ Q (.int ns.sum) H
theorem cr_sumT (hc : X.calm = true) : CallR X (.builtin "sum") (rSumT X.K) := by
  intro pins s σ H vs us Q I r h
  obtain ⟨a, ns, rfl, hs, q⟩ := h
  obtain ⟨its, rv, hl, _⟩ := I.tuple hs
  rw [Vals.ref1 r]
  have hi := rv.ints
  obtain ⟨xs, ex⟩ := hi.allInts.items
  have hn : numsOf (intItems xs).toList = ns := by
    have z := hi.numsOf
    rw [← ex]
    exact z
  rw [nums_intItems] at hn
  have hT : s.heap.IsTuple a (intItems xs) := by
    rw [← ex]
    exact hl
  have hlt : a < s.heap.objs.size := hl.lt
  refine call_sum_walkG (wpAny_pyIter_tuple hT ?_)
  refine ⟨_, _, _, _, _, _, numAt xs, rfl, Walks.tuple (A := X.A.in1) (I.ok.hd hc) s.heap.objs.size a (Nat.ne_of_lt hlt) (intItems xs), ⟨⟨_, Heap.get?_push_size _ rfl, rfl, rfl⟩, hT.push _⟩, fun b hb => ?_, fun i v hv => intItems_at hv, fun h' tk t' hk => ?_⟩
  · show b < (s.heap.push _).objs.size
    rw [Heap.size_push]
    simp only [List.mem_cons, List.not_mem_nil, or_false] at hb
    rcases hb with e | e <;> subst e
    · exact Nat.lt_succ_self _
    · exact Nat.lt_succ_of_lt hlt
  · have e : preSum (numAt xs) (intItems xs).size = ns.sum := by
      rw [preSum_eq, List.take_of_length_le (by simp [intItems]), hn]
    rw [e]
    refine ⟨.int _, H, I.kept (t' := tk) fun b o e => hk b o (fun hm => ?_) (Heap.get?_push_of_some _ e), ⟨_, rfl⟩, q⟩
    exact absurd (Heap.lt_size e) ((List.mem_singleton.mp hm) ▸ Nat.lt_irrefl _)
end
noncomputable def smB (ds : List D) (S : Sto) : Res D := match ds with
  | [d] => match (sqOf S d).bind intsL with
    | some ns => .ok (.int ns.sum) S
    | none => .bad
  | _ => .bad
theorem smB_map {ns : List Int} {S : Sto} : smB [.lst (ns.map D.int)] S = .ok (.int ns.sum) S := by
  simp only [smB, sqOf_lst, Option.bind_some, intsL_map]
section
variable {cl : Str → Addr} {W : WX} {X : Cx} {a o : Expr} {f g : Ev D} {fs : List (Ev D)} {p pos apos cpos : Pos}
theorem ok_smB : OkN X.K cl (fun vs H Q => rSum X.K vs H Q ∨ rSumT X.K vs H Q) smB := by
  intro W σ am S H ds vs Q rs h p
  match ds, vs, h, p with
  | [d], _, .cons (v := v) r1 .nil, p =>
    simp only [smB] at p
    cases q : sqOf S d with
    | none => simp only [q, Option.bind_none] at p; exact p.elim
    | some xs =>
      simp only [q, Option.bind_some] at p
      cases q2 : intsL xs with
      | none => rw [q2] at p; exact p.elim
      | some ns =>
        rw [q2] at p
        obtain ⟨l, us, ev, k1, k2⟩ := sqOf_ok rs r1 q
        subst ev
        have k3 := ints_ok k2 q2
        rw [k3] at k1
        rcases k1 with k1 | k1
        · exact .inl ⟨l, ns, rfl, k1, p am _ H .refl rs (.int _)⟩
        · exact .inr ⟨l, ns, rfl, k1, p am _ H .refl rs (.int _)⟩
  | [], _, _, p => exact p.elim
  | _ :: _ :: _, _, _, p => exact p.elim
theorem qe_sumB (hc : X.calm = true) (hg : Gl X "sum") (hm : X.mg "sum" = none) (ha : QA cl W X [a] (eArgs fs)) (he : starEach [a] X.env = (false, eval a X.env) :: starEach [] X.env := by rfl) (hpl : (backTo pos (starEach [] X.env)).any (·.1) = false := by rfl) :
    QE cl W X (.Call (.Name "sum" p) [a] [] pos) (eCall smB fs) := qe_callB (cr_or (cr_sum hc) (cr_sumT hc)) ok_smB hg hm (by decide +kernel) ha (by decide) (by decide) he hpl
end
end Pu
set_option Elab.async false
set_option linter.all false
set_option maxRecDepth 100000
namespace Pu
open PySem PySem.Spec PyProof.Rows L2
/-- what x[::-1] is, by values -/
noncomputable def SlB (X : Cx) (r : V → Hp → VK → Prop) : Prop :=
  ∀ (pins : List (Addr × Obj)) (s : Shared) (σ : L2.St) (H : Hp) (x : V) (v vk : Value) (sl : Addr) (Q : VK), Inv X pins σ H s → RelV x v → s.heap.IsSliceOf sl .none .none vk → IsPart vk (some (-1)) → r x H Q →
    ∃ T id, typeLookup (.type T) "__getitem__" = pure (some (.builtin id)) ∧ s.TypeIs v T ∧ wpAny (model X.prog X.w) X.A (getItem v (.ref sl)) (EP X pins σ Q) X.xe s
section
variable {X : Cx}
theorem SlB.or {r r' : V → Hp → VK → Prop} (h : SlB X r) (h' : SlB X r') : SlB X (fun x H Q => r x H Q ∨ r' x H Q) := by
  intro pins s σ H x v vk sl Q I rx hs pk q
  rcases q with q | q
  · exact h pins s σ H x v vk sl Q I rx hs pk q
  · exact h' pins s σ H x v vk sl Q I rx hs pk q
end
section
variable {cl : Str → Addr} {W : WX} {X : Cx} {a : Expr} {f : Ev D} {pos : Pos}
noncomputable def bkD (d : D) (S : Sto) : Res D := match d with
  | .tup xs => .ok (.tup xs.reverse) S
  | d => match lsOf S d with
    | some xs => .ok (.lst xs.reverse) S
    | none => .bad
@[simp] theorem bkD_tup {xs : List D} {S : Sto} : bkD (.tup xs) S = .ok (.tup xs.reverse) S := id rfl
@[simp] theorem bkD_lst {xs : List D} {S : Sto} : bkD (.lst xs) S = .ok (.lst xs.reverse) S := id rfl
theorem VRs.back {K : PySem.W.Frag} {am : AM} {H : Hp} : ∀ {ds : List D} {vs : List V}, VRs K am H ds vs → VRs K am H ds.reverse vs.reverse
  | _, _, .nil => .nil
  | _, _, .cons h1 h2 => by
    rw [List.reverse_cons, List.reverse_cons]
    exact (VRs.back h2).append (.cons h1 .nil)
end
noncomputable def inTD (neg : Bool) (d o : D) (S : Sto) : Res D := match o with
  | .tup xs => if SeqAt.shaped d.py = true ∧ SeqAt.shaped (.list (pys xs)) = true then .ok (.bl (if neg = true then !((pys xs).any fun z => PyData.eqv z d.py) else (pys xs).any fun z => PyData.eqv z d.py)) S else .bad
  | _ => .bad
section
variable {X : Cx}
noncomputable def rInTD (K : PySem.W.Frag) : R2 := fun x y H Q => ∃ d ds, Dp K H x d ∧ Dp K H y (.tuple ds) ∧ SeqAt.shaped d = true ∧ SeqAt.shaped (.list ds) = true ∧ Q (.bl (ds.any fun z => PyData.eqv z d)) H
noncomputable def rNotInTD (K : PySem.W.Frag) : R2 := fun x y H Q => ∃ d ds, Dp K H x d ∧ Dp K H y (.tuple ds) ∧ SeqAt.shaped d = true ∧ SeqAt.shaped (.list ds) = true ∧ Q (.bl (!ds.any fun z => PyData.eqv z d)) H
theorem op_inTD (hu : X.A.units + 65 < cLine) : OpR X (compareOp .In) (rInTD X.K) := by
  intro pins s σ H x y v u Q I rx ry h
  obtain ⟨d, ds, hd, he, sd, se, q⟩ := h
  obtain ⟨as, r1⟩ := Dp.reads I d x v hd rx
  obtain ⟨bs, r2⟩ := Dp.reads I (.tuple ds) y u he ry
  exact SeqAt.in_tuple_reads r2 r1 (SeqAt.canLay_of_shaped (d := .list ds) se) (SeqAt.canLay_of_shaped sd) (room_in_shaped sd hu) ⟨.bl _, H, I, rfl, q⟩
end
section
variable {cl : Str → Addr} {W : WX} {X : Cx} {a b : Expr} {f g : Ev D} {pos : Pos}
theorem ok_inTD (neg : Bool) : Ok2 X.K cl (fun x y H Q => if neg = true then rNotInTD X.K x y H Q else rInTD X.K x y H Q) (inTD neg) := by
  intro W σ am S H d o v u Q rs h1 h2 p
  cases h2 with
  | @tup a vs xs t hs =>
    simp only [inTD] at p
    by_cases hc : SeqAt.shaped d.py = true ∧ SeqAt.shaped (.list (pys xs)) = true
    · rw [if_pos hc] at p
      have p' := p am _ H .refl rs (.bl _)
      have hd := h1.dp (SeqAt.canLay_of_shaped hc.1)
      have hl : Dp X.K H (.ref a) (.tuple (pys xs)) := (VR.tup t hs).dp (by simpa [PyData.canLay0, D.py] using SeqAt.canLay_of_shaped hc.2)
      cases neg with
      | true => exact ⟨_, _, hd, hl, hc.1, hc.2, p'⟩
      | false => exact ⟨_, _, hd, hl, hc.1, hc.2, p'⟩
    · rw [if_neg hc] at p
      exact p.elim
  | _ => exact p.elim
theorem qe_inT {k : Nat} (hr : Room k X.A) (ha : QE cl W X a f) (hb : QE cl W X b g) (hm : behindInMarks .In b = false := by rfl) : QE cl W X (.Compare a [.In] [b] pos) (e2 (inTD false) f g) := qe_cmp (op_inTD (units65 hr)) (ok_inTD false) ha hb hm
end
end Pu
set_option Elab.async false
set_option linter.all false
set_option maxRecDepth 100000
namespace Pu
open PySem PySem.Spec PyProof.Rows L2
end Pu
set_option Elab.async false
set_option linter.all false
set_option maxRecDepth 100000
namespace Pu
open PySem PySem.Spec PyProof.Rows L2
end Pu
set_option Elab.async false
set_option linter.all false
set_option maxRecDepth 100000
set_option maxHeartbeats 1000000
namespace Pu
open PySem PySem.Spec PyProof.Rows L2
open PySem.Sem (wp)
end Pu
set_option Elab.async false
set_option linter.all false
set_option maxRecDepth 100000
namespace Pu
open PySem PySem.Spec PyProof.Rows L2
section
variable {cl : Str → Addr} {X : Cx} {i : Nat} {a : Addr} {oe : Obj} {c x y : Str} {q p1 p2 pos : Pos} {b b1 b2 v : Bool}
noncomputable def tHT (i : Nat) (a : Addr) (v : Bool) : TT := fun σ H Q => σ[i]? = some (some (.ref a)) ∧ ∀ H', (∀ b o, H b = some o → H' b = some o) → Q v H'
noncomputable abbrev HT (X : Cx) (i : Nat) (a : Addr) (t : Expr) (v : Bool) : Prop := PT X t (tHT i a v)
end
end Pu
set_option Elab.async false
set_option linter.all false
set_option maxRecDepth 100000
set_option maxHeartbeats 1000000
namespace Pu
open PySem PySem.Spec PyProof.Rows L2
end Pu
set_option Elab.async false
set_option linter.all false
set_option maxRecDepth 100000
set_option maxHeartbeats 1000000
namespace Pu
open PySem PySem.Spec PyProof.Rows L2
noncomputable def signs (x : Str) : List D := x.cps.toList.map fun c => .str ⟨#[c]⟩
noncomputable def srcTx (d : D) (S : Sto) : Res Src := match d with
  | .str x => .ok (.tmp (signs x)) S
  | _ => .bad
noncomputable def iTx (f : Ev D) : Ev Src := fun e S => (f e S).bind srcTx
noncomputable def srcRv (ds : List D) (S : Sto) : Res Src := match ds with
  | [.lst xs] => .ok (.tmp xs.reverse) S
  | [.fls xs] => .ok (.tmp xs.reverse) S
  | _ => .bad
noncomputable def iRv (f : Ev D) : Ev Src := fun e S => (eArgs [f] e S).bind srcRv
section
variable {cl : Str → Addr} {W : WX} {X : Cx} {a tgE : Expr} {f : Ev D} {p pos : Pos} {K : PySem.W.Frag}
theorem its_ok {x : Str} {am : AM} {H : Hp} : SrcJ K cl (.tmp (signs x)) am H (Its x) := by
  intro am' H' S' g rs _
  refine ⟨fun i d hd => ?_, fun i hi => by simpa [Its, signs] using hi⟩
  have hd : (signs x)[i]? = some d := hd
  unfold signs at hd
  rw [List.getElem?_map, Option.map_eq_some_iff] at hd
  obtain ⟨c, hc, rfl⟩ := hd
  have hi : i < x.cps.size := by
    have := (List.getElem?_eq_some_iff.mp hc).1
    simpa using this
  refine ⟨hi, fun v H2 hy => ?_⟩
  obtain ⟨rfl, c', hc', rfl⟩ := hy
  have e : c' = c := by
    have h1 : x.cps.toList[i]? = x.cps[i]? := Array.getElem?_toList
    rw [h1, hc'] at hc
    exact Option.some.inj hc
  subst e
  exact ⟨am', .refl, rs, .str _⟩
theorem qi_tx (ha : QE cl W X a f) : QI cl W X tgE a (iTx f) := (pi_str ha).imp fun σ H R ⟨am, e, S, rs, re, p⟩ =>
  ⟨am, e, S, rs, re, (Post.step p).imp fun x H1 ⟨am1, S1, d, _, g1, rs1, rv, p1⟩ => by
    cases rv with
    | str x => exact ⟨x, rfl, p1 am1 _ H1 .refl rs1 its_ok⟩
    | _ => exact p1.elim⟩
theorem rv_ok {am : AM} {H : Hp} {l : Addr} {xs : List D} {n : Nat} (hn : n = xs.length) (h : ∀ (am' : AM) (H' : Hp) (S' : Sto), Grow am am' H H' → RelS K cl am' S' H' → ∃ vs, SqL K H' l vs ∧ VRs K am' H' xs vs) : SrcJ K cl (.tmp xs.reverse) am H (Itv K l n) := by
  intro am' H' S' g rs _
  subst hn
  obtain ⟨vs, h1, h2⟩ := h am' H' S' g rs
  refine ⟨fun i d hd => ?_, fun i hi => by simpa [Itv] using hi⟩
  have hd : xs.reverse[i]? = some d := hd
  have hi : i < xs.length := by
    have := (List.getElem?_eq_some_iff.mp hd).1
    simpa using this
  rw [List.getElem?_reverse hi] at hd
  obtain ⟨v, hv, rv⟩ := h2.get hd
  refine ⟨⟨hi, vs, v, h1, hv⟩, fun y H2 hy => ?_⟩
  obtain ⟨rfl, hz⟩ := hy
  have e : y = v := Option.some.inj ((hz vs h1).symm.trans hv)
  subst e
  exact ⟨am', .refl, rs, rv⟩
theorem qi_rv (hg : Gl X "reversed") (hm : X.mg "reversed" = none) (ha : QE cl W X a f) (hs : starEach [a] X.env = [(false, eval a X.env)] := by rfl) (h0 : starEach [a] X.env = (false, eval a X.env) :: starEach [] X.env := by rfl) :
    QI cl W X tgE (.Call (.Name "reversed" p) [a] [] pos) (iRv f) :=
  (pi_reversed hg hm (qa_cons ha qa_nil h0) hs).imp fun σ H R ⟨am, e, S, rs, re, q0⟩ =>
    ⟨am, e, S, rs, re, (Post.step q0).imp fun xs H1 ⟨am1, S1, ds, _, g1, rs1, rvs, p1⟩ => by
      cases rvs with
      | nil => exact p1.elim
      | cons r1 r2 =>
        cases r2 with
        | cons _ _ => cases r1 <;> exact p1.elim
        | nil =>
          cases r1 with
          | @lst l vs ys h1 h2 h3 => exact ⟨l, vs, rfl, .inl (.inl h1), p1 am1 _ H1 .refl rs1 (rv_ok h3.length.symm fun am' H' S' g rs => ⟨vs, .inl (.inl (g.ext.keep _ _ h1 h2).1), h3.mono g⟩)⟩
          | @fls l vs ys h1 h3 => exact ⟨l, vs, rfl, h1.seq, p1 am1 _ H1 .refl rs1 (rv_ok h3.length.symm fun am' H' S' g rs => ⟨vs, (h1.ext g.ext).seq, h3.mono g⟩)⟩
          | _ => exact p1.elim⟩
end
noncomputable def strsD : List D → Option (List Str)
  | [] => some []
  | .str x :: r => (strsD r).map (x :: ·)
  | _ :: _ => none
noncomputable def JoinFit (a : Str) (ys : List Str) : Prop := (ys.map (·.length)).sum + ys.length * a.length ≤ 16777216
noncomputable instance (a : Str) (ys : List Str) : Decidable (JoinFit a ys) := by unfold JoinFit; infer_instance
noncomputable def joinD (o : D) (ds : List D) (S : Sto) : Res D := match o with
  | .str a => match ds with
    | [d] => match (match d with | .tup xs => some xs | d => lsOf S d).bind strsD with
      | some ys => if JoinFit a ys then .ok (.str (Txt.join a ys)) S else .bad
      | none => .bad
    | _ => .bad
  | _ => .bad
theorem strsD_map : ∀ ys : List Str, strsD (ys.map D.str) = some ys
  | [] => rfl
  | y :: ys => by
    show (strsD (ys.map D.str)).map (y :: ·) = _
    rw [strsD_map ys]
    rfl
section
variable {cl : Str → Addr} {W : WX} {X : Cx} {o a : Expr} {f g : Ev D} {apos cpos : Pos} {K : PySem.W.Frag}
theorem strsD_ok {am : AM} {H : Hp} : ∀ {ds : List D} {vs : List V} {ys : List Str}, VRs K am H ds vs → strsD ds = some ys → vs = ys.map V.str
  | _, _, ys, .nil, e => by cases e; rfl
  | _, _, ys, .cons (d := d) (ds := ds) h t, e => by
    cases h with
    | str x =>
      simp only [strsD] at e
      cases q : strsD ds with
      | none => rw [q] at e; cases e
      | some zs =>
        rw [q] at e
        cases e
        rw [strsD_ok t q]
        rfl
    | _ => cases e
noncomputable def rJoin (X : Cx) : V → List V → Hp → VK → Prop := fun x xs H Q => ∃ a p, ∃ ys : List Str, x = .str a ∧ xs = [.ref p] ∧ (SqL X.K H p (ys.map V.str) ∨ SqT X.K H p (ys.map V.str)) ∧
    (ys.map (·.length)).sum + ys.length * a.length ≤ 16777216 ∧ Q (.str (Txt.join a ys)) H
theorem ok_join : OkM X.K cl "str" (rJoin X) joinD := by
  intro W σ am S H o ds x vs Q rs h1 h2 p
  cases h1 with
  | str s =>
    cases h2 with
    | nil => exact p.elim
    | cons r1 r2 =>
      cases r2 with
      | cons _ _ => exact p.elim
      | nil =>
        rename_i d v
        have fin : ∀ (xs : List D) (us : List V) (l : Addr), v = .ref l → VRs X.K am H xs us → (SqL X.K H l us ∨ SqT X.K H l us) → Post X.K cl W σ (VR X.K) am H (match strsD xs with
            | some ys => if JoinFit s ys then .ok (.str (Txt.join s ys)) S else .bad
            | none => .bad) Q → rJoin X (.str s) [v] H Q := fun xs us l ev hv hs p => by
          subst ev
          cases e : strsD xs with
          | none => rw [e] at p; exact p.elim
          | some ys =>
            rw [e] at p
            simp only at p
            by_cases hf : JoinFit s ys
            · rw [if_pos hf] at p
              have eu := strsD_ok hv e
              subst eu
              exact ⟨s, l, ys, rfl, rfl, hs, hf, p am _ H .refl rs (.str _)⟩
            · rw [if_neg hf] at p
              exact p.elim
        have viaL : ∀ {xs : List D}, lsOf S d = some xs → Post X.K cl W σ (VR X.K) am H (match (some xs).bind strsD with
            | some ys => if JoinFit s ys then .ok (.str (Txt.join s ys)) S else .bad
            | none => .bad) Q → rJoin X (.str s) [v] H Q := fun {xs} q p => by
          obtain ⟨l, us, ev, q1, q2⟩ := lsOf_ok rs r1 q
          exact fin xs us l ev q2 (.inl q1) p
        unfold joinD at p
        simp only at p
        cases d with
        | tup xs =>
          cases r1 with
          | @tup l us _ t1 s1 => exact fin xs us l rfl s1 (.inr t1.seq) p
        | _ =>
          simp only at p
          first
          | (revert p
             generalize q : lsOf S _ = z
             intro p
             cases z with
             | none => exact p.elim
             | some xs => exact viaL q p)
  | _ => exact p.elim
theorem qe_join (ho : QE cl W X o g) (ha : QE cl W X a f) (h0 : starEach [a] X.env = (false, eval a X.env) :: starEach [] X.env := by rfl)
    (hbase : attributeBase o "join" X.env (eval o X.env) = eval o X.env := by rfl)
    (hfew : ((backTo cpos (starEach [a] X.env)).all (fun x => !x.1) && (backToKw cpos (keywordEach [] X.env)).all (fun x => x.1.isSome) && decide (([a] : List Expr).length + ([] : List Keyword).length + (if ([] : List Keyword).isEmpty then 0 else 1) < 30)) = true := by rfl)
    (hline : (apos.endLine == cpos.line) = true := by rfl) (hplain : (backTo cpos (starEach [] X.env)).any (·.1) = false := by rfl) :
    QE cl W X (.Call (.Attribute o "join" apos) [a] [] cpos) (eM "str" joinD g [f]) := qe_bm PySem.F.plainAttrs_str PySem.F.slot_str_join PySem.F.type_str_join mt_join ok_join ho (qa_cons ha qa_nil h0) hbase hfew hline h0 hplain
end
section
variable {dead vs : List Nat} {tg : Tg} {f g : Ev D} {a : Stm} {e : En} {S : Sto} {xs ys : List D} {t : Ev Bool} {x : Str}
@[simp] theorem ap_iTx : iTx f e S = (f e S).bind srcTx := id rfl
@[simp] theorem ap_iRv : iRv f e S = (eArgs [f] e S).bind srcRv := id rfl
@[simp] theorem srcTx_str : srcTx (.str x) S = .ok (.tmp (signs x)) S := id rfl
@[simp] theorem srcRv_lst : srcRv [.lst xs] S = .ok (.tmp xs.reverse) S := id rfl
@[simp] theorem srcRv_fls : srcRv [.fls xs] S = .ok (.tmp xs.reverse) S := id rfl
theorem forTx (hf : f e S = .ok (.str x) S) : sFor dead tg (iTx f) a e S = forD dead tg (.tmp (signs x)) a (signs x) e S := by
  rw [ap_For, ap_iTx, hf, Res.bind_ok]
  rfl
theorem nLcTx (hf : f e S = .ok (.str x) S) (hl : x.length < 1048576) (q : lcD tg (.tmp (signs x)) t g (wipeE e vs) (signs x) S = .ok ys S) : nLc vs tg (iTx f) t g e S = .ok (.lst ys) S := by
  rw [ap_Lc, ap_iTx, hf, Res.bind_ok, srcTx_str, Res.bind_ok]
  simp only [Src.items_tmp]
  have hz : (signs x).length < 1048576 := by
    unfold signs
    rw [List.length_map]
    exact hl
  rw [if_pos (Nat.le_of_lt (sz hz)), q, Res.bind_ok]
theorem joinD_lst {s : Str} {zs : List Str} (h : JoinFit s zs) : joinD (.str s) [.lst (zs.map D.str)] S = .ok (.str (Txt.join s zs)) S := by
  unfold joinD
  simp only [lsOf_lst, Option.bind_some, strsD_map, h, if_true]
end
end Pu
set_option Elab.async false
set_option linter.all false
set_option maxRecDepth 100000
set_option maxHeartbeats 1000000
namespace L2
open PySem PySem.Spec PyProof.Rows
end L2
namespace Pu
open PySem PySem.Spec PyProof.Rows L2
noncomputable def insOf (S : Sto) (c : Str) : D → Option (List (Str × D))
  | .ref k => match S[k]? with
    | some (.ins c' fs) => if c' = c then some fs else none
    | _ => none
  | _ => none
@[simp] theorem insOf_ref {S : Sto} {k : Nat} {c : Str} {fs : List (Str × D)} (h : S[k]? = some (.ins c fs)) : insOf S c (.ref k) = some fs := by
  simp only [insOf, h, if_true]
/-- one attribute set -/
noncomputable def putFD (f : Str) (v : D) : List (Str × D) → List (Str × D)
  | [] => [(f, v)]
  | (g, x) :: r => if g = f then (g, v) :: r else (g, x) :: putFD f v r
section
variable {K : PySem.W.Frag} {cl : Str → Addr} {am : AM} {H : Hp} {S : Sto} {d : D} {v : V}
theorem VRf.lookup {f : Str} : ∀ {fs : List (Str × D)} {vs : List (Str × V)} {d : D}, VRf K am H fs vs → fs.lookup f = some d → ∃ v, vs.lookup f = some v ∧ VR K am H d v
  | _, _, _, .nil, h => by cases h
  | (g, x) :: fs, (g', y) :: vs, d, .cons ⟨e, r⟩ t, h => by
    have e : g = g' := e
    subst e
    rw [List.lookup_cons] at h ⊢
    by_cases hg : (f == g) = true
    · rw [hg] at h ⊢
      cases h
      exact ⟨y, rfl, r⟩
    · rw [Bool.not_eq_true] at hg
      rw [hg] at h ⊢
      exact VRf.lookup t h
theorem VRf.length : ∀ {fs : List (Str × D)} {vs : List (Str × V)}, VRf K am H fs vs → fs.length = vs.length
  | _, _, .nil => rfl
  | _, _, .cons _ t => by rw [List.length_cons, List.length_cons, VRf.length t]
theorem VRf.put {f : Str} (r : VR K am H d v) : ∀ {fs : List (Str × D)} {vs : List (Str × V)}, VRf K am H fs vs → VRf K am H (putFD f d fs) (putF f v vs)
  | _, _, .nil => .cons ⟨rfl, r⟩ .nil
  | (g, x) :: fs, (g', y) :: vs, .cons ⟨e, r'⟩ t => by
    have e : g = g' := e
    subst e
    show VRf K am H (if g = f then (g, d) :: fs else (g, x) :: putFD f d fs) (if g = f then (g, v) :: vs else (g, y) :: putF f v vs)
    by_cases hg : g = f
    · rw [if_pos hg, if_pos hg]
      exact .cons ⟨rfl, r⟩ t
    · rw [if_neg hg, if_neg hg]
      exact .cons ⟨rfl, r'⟩ (VRf.put r t)
theorem VRf.mono {am' : AM} {H' : Hp} (g : Grow am am' H H') {fs : List (Str × D)} {vs : List (Str × V)} (h : VRf K am H fs vs) : VRf K am' H' fs vs := Paired.mapP h fun p q z => ⟨z.1, z.2.mono g⟩
end
section
variable {cl : Str → Addr} {W : WX} {X : Cx} {o a : Expr} {es : List Expr} {f g h : Ev D} {fs : List (Ev D)} {pos pos' apos p : Pos} {c x m : Str}
structure MethOk (P : Program) (w : World) (K : PySem.W.Frag) (mg : Str → Option Value) (base : Heap) (cl : Str → Addr) (c m : Str) (k : Nat) (ps : List Str) (F : List D → Sto → Res D) : Prop where
  ex : ∃ f fd, FnOk P w K mg base (L2N.CX P w) k f fd ps (SpD K cl ps.length F) ∧ Meth K (cl c) m f ∧ (∀ us : List Value, us.length = ps.length → bindArgs fd ⟨us, []⟩ = pure (ps.zip us))
theorem MethOk.mono {P : Program} {w : World} {K : PySem.W.Frag} {mg : Str → Option Value} {base : Heap} {k j : Nat} {ps : List Str} {F : List D → Sto → Res D} (d : MethOk P w K mg base cl c m k ps F) (h : k ≤ j) : MethOk P w K mg base cl c m j ps F :=
  let ⟨f, fd, a, b⟩ := d.ex
  ⟨f, fd, a.mono h, b⟩
end
end Pu
set_option Elab.async false
set_option linter.all false
set_option maxRecDepth 100000
set_option maxHeartbeats 1000000
namespace L2
open PySem PySem.Spec PyProof.Rows
end L2
namespace Pu
open PySem PySem.Spec PyProof.Rows L2
section
variable {cl : Str → Addr} {W : WX} {X : Cx} {a b c : Expr} {es : List Expr} {f g h : Ev D} {fs : List (Ev D)} {pos p apos cpos mpos : Pos}
noncomputable def ii3D (ds : List D) (S : Sto) : Res D := match ds with
  | [.int i, .int j, .int k] => .ok (.int (minI (minI i j) k)) S
  | _ => .bad
noncomputable def dropD (kvs : List (Key × D)) (k : Key) : List (Key × D) := kvs.filter fun kv => decide (kv.1 ≠ k)
theorem VRk.drop {K : PySem.W.Frag} {am : AM} {H : Hp} (k : Key) : ∀ {ds : List (Key × D)} {vs : List (Key × V)}, VRk K am H ds vs → VRk K am H (dropD ds k) (dropK vs k)
  | _, _, .nil => .nil
  | _, _, .cons (k := k') (ds := ds) (vs := vs) r t => by
    have ih := VRk.drop k t
    unfold dropD dropK at ih ⊢
    rw [List.filter_cons, List.filter_cons]
    by_cases e : k' = k
    · simp only [e, ne_eq, not_true_eq_false, decide_false, Bool.false_eq_true, if_false]
      exact ih
    · simp only [e, ne_eq, not_false_eq_true, decide_true, if_true]
      exact .cons r ih
end
section
variable {f g h : Ev D} {e : En} {S : Sto} {n : Nat} {kvs : List (Key × D)} {i j k : Int} {z : D}
@[simp] theorem ii3_ap : ii3D [.int i, .int j, .int k] S = .ok (.int (minI (minI i j) k)) S := id rfl
end
end Pu
set_option Elab.async false
set_option linter.all false
set_option maxRecDepth 100000
set_option maxHeartbeats 1000000
namespace Pu
open PySem PySem.Spec PyProof.Rows L2
end Pu
set_option Elab.async false
set_option linter.all false
set_option maxRecDepth 100000
set_option maxHeartbeats 1000000
namespace Pu
open PySem PySem.Spec PyProof.Rows L2
end Pu
set_option Elab.async false
set_option linter.all false
set_option maxRecDepth 100000
set_option maxHeartbeats 1000000
namespace L2
open PySem PySem.Spec PyProof.Rows
end L2
namespace Pu
open PySem PySem.Spec PyProof.Rows L2
section
variable {cl : Str → Addr} {W : WX} {X : Cx} {a o : Expr} {f g : Ev D} {pos apos cpos : Pos} {K : PySem.W.Frag}
theorem VRs.eraseIdx {am : AM} {H : Hp} : ∀ {ds : List D} {vs : List V} (j : Nat), VRs K am H ds vs → VRs K am H (ds.eraseIdx j) (vs.eraseIdx j)
  | _, _, _, .nil => by simpa using VRs.nil
  | _, _, 0, .cons _ t => by simpa using t
  | _, _, j + 1, .cons h t => by simpa using VRs.cons h (VRs.eraseIdx j t)
end
end Pu
set_option Elab.async false
set_option linter.all false
set_option maxRecDepth 100000
namespace Pu
open PySem PySem.Spec PyProof.Rows L2
end Pu
set_option Elab.async false
set_option linter.all false
set_option maxRecDepth 100000
namespace Pu
open PySem PySem.Spec PyProof.Rows L2
end Pu
set_option Elab.async false
set_option linter.all false
set_option maxRecDepth 100000
set_option maxHeartbeats 2000000
namespace Pu
open PySem PySem.Spec PyProof.Rows L2 HotX
open PySem.Calls
end Pu
set_option Elab.async false
set_option linter.all false
set_option maxRecDepth 100000
set_option maxHeartbeats 1000000
namespace Pu
open PySem PySem.Spec PyProof.Rows L2
end Pu
set_option Elab.async false
set_option linter.all false
set_option maxRecDepth 100000
set_option maxHeartbeats 1000000
namespace Pu
open PySem PySem.Spec PyProof.Rows L2
end Pu
set_option Elab.async false
set_option linter.all false
set_option maxRecDepth 100000
set_option maxHeartbeats 2000000
namespace PySem
end PySem
namespace Pu
open PySem PySem.Spec PyProof.Rows L2
end Pu
set_option Elab.async false
set_option linter.all false
set_option maxRecDepth 100000
set_option maxHeartbeats 2000000
namespace Pu
open PySem PySem.Spec PyProof.Rows L2
end Pu
set_option Elab.async false
set_option linter.all false
set_option maxRecDepth 100000
set_option maxHeartbeats 2000000
namespace Pu
open PySem PySem.Spec PyProof.Rows L2
end Pu
set_option Elab.async false
set_option linter.all false
set_option maxRecDepth 100000
set_option maxHeartbeats 2000000
namespace Pu
open PySem PySem.Spec PyProof.Rows L2
end Pu
set_option Elab.async false
set_option linter.all false
set_option maxRecDepth 100000
set_option maxHeartbeats 2000000
namespace Pu
open PySem PySem.Spec PyProof.Rows L2
noncomputable def tupTwo (d : D) (k : D → D → SRes) : SRes := match d with
  | .tup [a, b] => k a b
  | _ => .bad
@[simp] theorem tupTwo_ap {a b : D} {k : D → D → SRes} : tupTwo (.tup [a, b]) k = k a b := id rfl
noncomputable def sSwap (fs : List (Ev D)) (g1 h1 g2 h2 : Ev D) : Stm := fun e S => (eTup fs e S).stm e fun d S => tupTwo d fun d1 d2 => (g1 e S).stm e fun o1 S => (h1 e S).stm e fun i1 S => (match stD o1 i1 d1 S with
    | some S => (g2 e S).stm e fun o2 S => (h2 e S).stm e fun i2 S => (match stD o2 i2 d2 S with
      | some S => .next e S
      | none => .bad)
    | none => .bad)
section
variable {cl : Str → Addr} {W : WX} {X : Cx} {a b1 c1 b2 c2 : Expr} {fs : List (Ev D)} {g1 h1 g2 h2 : Ev D} {pos p1 p2 pt : Pos} {k2 : Nat}
@[simp] theorem ap_Swap {e : En} {S : Sto} : sSwap fs g1 h1 g2 h2 e S = (eTup fs e S).stm e fun d S => tupTwo d fun d1 d2 => (g1 e S).stm e fun o1 S => (h1 e S).stm e fun i1 S => (match stD o1 i1 d1 S with
    | some S => (g2 e S).stm e fun o2 S => (h2 e S).stm e fun i2 S => (match stD o2 i2 d2 S with
      | some S => .next e S
      | none => .bad)
    | none => .bad) := id rfl
end
noncomputable def eSel (f : Ev D) (F0 F1 : List D → Sto → Res D) (fs : List (Ev D)) : Ev D := fun e S => (f e S).bind fun d S => match d with
  | .int i => (match atI [F0, F1] i with
    | some F => (eArgs fs e S).bind F
    | none => .bad)
  | _ => .bad
section
variable {cl : Str → Addr} {W : WX} {X : Cx} {a b : Expr} {es : List Expr} {f : Ev D} {fs : List (Ev D)} {pos p0 p1 pl ps' : Pos} {x0 x1 : Str}
@[simp] theorem ap_Sel {F0 F1 : List D → Sto → Res D} {e : En} {S : Sto} : eSel f F0 F1 fs e S = (f e S).bind fun d S => match d with
  | .int i => (match atI [F0, F1] i with
    | some F => (eArgs fs e S).bind F
    | none => .bad)
  | _ => .bad := id rfl
end
end Pu
set_option Elab.async false
set_option linter.all false
set_option maxRecDepth 100000
set_option maxHeartbeats 2000000
namespace Pu
open PySem PySem.Spec PyProof.Rows L2
theorem allSome_at {α : Type} : ∀ {l : List (Option α)} {r : List α} {k : Nat} {x : α}, allSome l = some r → r[k]? = some x → l[k]? = some (some x)
  | [], r, k, x, h, hx => by cases h; cases hx
  | none :: _, _, _, _, h, _ => by cases h
  | some a :: l, r, k, x, h, hx => by
    have h : (allSome l).map (a :: ·) = some r := h
    cases e : allSome l with
    | none => rw [e] at h; cases h
    | some r2 =>
      rw [e] at h
      cases h
      cases k with
      | zero => cases hx; rfl
      | succ k => exact allSome_at (l := l) e hx
theorem allSome_len {α : Type} : ∀ {l : List (Option α)} {r : List α}, allSome l = some r → r.length = l.length
  | [], r, h => by cases h; rfl
  | none :: _, _, h => by cases h
  | some a :: l, r, h => by
    have h : (allSome l).map (a :: ·) = some r := h
    cases e : allSome l with
    | none => rw [e] at h; cases h
    | some r2 =>
      rw [e] at h
      cases h
      rw [List.length_cons, List.length_cons, allSome_len e]
noncomputable def frzO (S S1 : Sto) (k : Nat) (o : DO) : Option DO := @ite _ (S[k]? = some o ∨ o.bel S.length = true) (Classical.propDecidable _) (some o) (match o with
  | .lst xs => (allSome (xs.map (frzV S.length S1 6))).map .lst
  | _ => none)
noncomputable def frzS (S S1 : Sto) : Option Sto := allSome ((List.range S.length).map fun k => (S1[k]?).bind (frzO S S1 k))
noncomputable def frzX (n : Nat) (S : Sto) (x : Option D) : Option (Option D) := match x with
  | none => some none
  | some d => (frzV n S 6 d).map some
noncomputable def frz2 (r1 : Option En) (r2 : Option Sto) : SRes := match r1, r2 with
  | some e2, some S2 => .next e2 S2
  | _, _ => .bad
noncomputable def cutR (S : Sto) (r : SRes) : SRes := match r with
  | .next e1 S1 => frz2 (allSome (e1.map (frzX S.length S1))) (frzS S S1)
  | r => r
/-- what comes up in it is held by its data at its end -/
noncomputable def sCutB (u : Stm) : Stm := fun e S => cutR S (u e S)
section
variable {K : PySem.W.Frag} {cl : Str → Addr} {W : WX} {am am' : AM} {H H' : Hp} {S S' S2 : Sto} {σ : L2.St}
theorem OR.frz {k : Nat} (rs : RelS K cl am S H) (rs' : RelS K cl am' S' H') {a : Addr} {o o' : DO} (h : OR K cl am' H' a o) (q : frzO S S' k o = some o') : OR K cl (am'.cut S.length [] rs'.nd) H' a o' := by
  unfold frzO at q
  split at q
  · rename_i hb
    cases q
    refine h.cut rs'.nd ?_
    rcases hb with hb | hb
    · obtain ⟨b, _, ho⟩ := rs.has hb
      have := ho.bel
      rw [rs.len] at this
      exact this
    · exact hb
  · cases o with
    | lst xs =>
      simp only at q
      cases e : allSome (xs.map (frzV S.length S' 6)) with
      | none => rw [e] at q; cases q
      | some ys =>
        rw [e] at q
        cases q
        obtain ⟨vs, h1, h2⟩ := h
        exact ⟨vs, h1, allSome_VRs (fun d v d' => VR.frz rs' 6 d v d') h2 e⟩
    | dct xs => cases q
    | ins c fs => cases q
theorem RelS.frz (g : Grow am am' H H') (rs : RelS K cl am S H) (rs' : RelS K cl am' S' H') (h : frzS S S' = some S2) : RelS K cl (am'.cut S.length [] rs'.nd) S2 H' := by
  have hle : S.length ≤ S'.length := by
    obtain ⟨r, e⟩ := g.pre
    rw [← rs.len, ← rs'.len, e, List.length_append]
    omega
  have hl2 := allSome_len h
  rw [List.length_map, List.length_range] at hl2
  refine ⟨?_, rs'.nd.sublist (List.take_sublist _ _), fun k o a h1 h2 => ?_, fun a ha => rs'.there a (List.mem_filter.mp ha).1⟩
  · show (am'.ad.take S.length).length = _
    rw [hl2, List.length_take, rs'.len]
    omega
  · have hk : k < S.length := by
      rw [← hl2]
      exact (List.getElem?_eq_some_iff.mp h1).1
    have q := allSome_at h h1
    rw [List.getElem?_map, List.getElem?_range hk] at q
    have q : (S'[k]?).bind (frzO S S' k) = some o := Option.some.inj q
    obtain ⟨o', e1, e2⟩ := Option.bind_eq_some_iff.mp q
    have h2 : (am'.ad.take S.length)[k]? = some a := h2
    rw [List.getElem?_take_of_lt hk] at h2
    exact OR.frz rs rs' (rs'.ob k o' a e1 h2) e2
theorem RelE.frz {n : Nat} (rs : RelS K cl am S H) {e e2 : En} (re : RelE K am H e σ) (h : allSome (e.map (frzX n S)) = some e2) : RelE K (am.cut n [] rs.nd) H e2 σ := by
  refine ⟨by rw [allSome_len h, List.length_map]; exact re.len, fun i d hd => ?_⟩
  have q := allSome_at h hd
  rw [List.getElem?_map] at q
  obtain ⟨x, e1, e3⟩ := Option.map_eq_some_iff.mp q
  cases x with
  | none => cases e3
  | some d0 =>
    have e3 : (frzV n S 6 d0).map some = some (some d) := e3
    obtain ⟨d1, e4, e5⟩ := Option.map_eq_some_iff.mp e3
    cases e5
    obtain ⟨v, h1, h2⟩ := re.get i d0 e1
    exact ⟨v, h1, VR.frz rs 6 d0 v d h2 e4⟩
theorem PostS.cutR {r : SRes} {E : Ends} (rs : RelS K cl am S H) (p : PostS K cl W am H (cutR S r) E) : PostS K cl W am H r E := by
  cases r with
  | next e1 S1 =>
    intro am' σ' H' g rs' re'
    have p : PostS K cl W am H (frz2 (allSome (e1.map (frzX S.length S1))) (frzS S S1)) E := p
    cases q1 : allSome (e1.map (frzX S.length S1)) with
    | none => rw [q1] at p; exact p.elim
    | some e2 =>
      cases q2 : frzS S S1 with
      | none => rw [q1, q2] at p; exact p.elim
      | some S2 =>
        rw [q1, q2] at p
        exact p _ σ' H' (Grow.cut g rs rs'.nd) (RelS.frz g rs rs' q2) (RelE.frz rs' re' q1)
  | brk e1 S1 => exact p
  | cnt e1 S1 => exact p
  | ret d S1 => exact p
  | exc c e1 S1 => exact p
  | bad => exact p
end
section
variable {cl : Str → Addr} {W : WX} {X : Cx} {ss : List Stmt} {u : Stm}
theorem qb_cutB (h : QB cl W X ss u) : QB cl W X ss (sCutB u) := h.imp fun E σ H ⟨am, e, S, rs, re, p⟩ => ⟨am, e, S, rs, re, PostS.cutR rs p⟩
theorem allSome_of {α : Type} {f : Nat → Option α} {l : List α} (h : ∀ k x, l[k]? = some x → f k = some x) : allSome ((List.range l.length).map f) = some l := by
  have g : ∀ (l : List α) (f : Nat → Option α), (∀ k x, l[k]? = some x → f k = some x) → allSome ((List.range l.length).map f) = some l := by
    intro l
    induction l with
    | nil => intro f _; rfl
    | cons x l ih =>
      intro f h
      rw [List.length_cons, List.range_succ_eq_map, List.map_cons, List.map_map, h 0 x rfl]
      show (allSome _).map (x :: ·) = _
      rw [ih (f ∘ Nat.succ) fun k y hy => h (k + 1) y (by simpa using hy)]
      rfl
  exact g l f h
theorem frzS_of {S S1 S2 : Sto} (hl : S2.length = S.length) (h : ∀ k o2, S2[k]? = some o2 → ∃ o, S1[k]? = some o ∧ frzO S S1 k o = some o2) : frzS S S1 = some S2 := by
  unfold frzS
  rw [← hl]
  exact allSome_of fun k o2 h2 => by
    obtain ⟨o, e1, e2⟩ := h k o2 h2
    show (S1[k]?).bind (frzO S S1 k) = _
    rw [e1]
    exact e2
theorem frzO_same {S S1 : Sto} {k : Nat} {o : DO} (h : S[k]? = some o) : frzO S S1 k o = some o := by
  unfold frzO
  rw [if_pos (.inl h)]
theorem frzV_bel {n : Nat} {S : Sto} {f : Nat} {d : D} (h : d.bel n = true) : frzV n S f d = some d := by
  cases f with
  | zero => unfold frzV; rw [if_pos h]
  | succ f => unfold frzV; rw [if_pos h]
@[simp] theorem ap_CutB {e : En} {S : Sto} : sCutB u e S = cutR S (u e S) := id rfl
end
noncomputable def pick3 {α : Type} (xs : List α) : List α := ((xs.take (xs.length - 3)).drop 1).reverse
theorem pick3_val (items : Array Value) : slicePick items (some (-4)) (some 0) (some (-1)) = (pick3 items.toList).toArray := by
  have hb : sliceBounds (some (-4)) (some 0) (some (-1)) items.size = (max (-1) (min (-4 + (items.size : Int)) ((items.size : Int) - 1)), max (-1) (min 0 ((items.size : Int) - 1)), -1) := rfl
  unfold slicePick
  rw [hb]
  show ((sliceRange (max (-1) (min (-4 + (items.size : Int)) ((items.size : Int) - 1))) (max (-1) (min 0 ((items.size : Int) - 1))) (-1)).filterMap (items[·]?)).toArray = _
  have hl : items.toList.length = items.size := Array.length_toList
  by_cases h : items.size < 4
  · have e : sliceRange (max (-1) (min (-4 + (items.size : Int)) ((items.size : Int) - 1))) (max (-1) (min 0 ((items.size : Int) - 1))) (-1) = [] := by
      unfold sliceRange
      rw [if_neg (by decide), if_neg (by omega)]
      rfl
    rw [e]
    unfold pick3
    rw [List.drop_eq_nil_of_le (by rw [List.length_take]; omega)]
    rfl
  · have e : sliceRange (max (-1) (min (-4 + (items.size : Int)) ((items.size : Int) - 1))) (max (-1) (min 0 ((items.size : Int) - 1))) (-1) = ((List.range (items.size - 4)).map (1 + ·)).reverse := by
      have ea : max (-1) (min (-4 + (items.size : Int)) ((items.size : Int) - 1)) = ((items.size - 4 : Nat) : Int) := by omega
      have eb : max (-1) (min 0 ((items.size : Int) - 1)) = 0 := by omega
      rw [ea, eb, ← List.map_reverse, ← PySem.W.krv_range, List.map_map]
      unfold sliceRange
      rw [if_neg (by decide)]
      by_cases h0 : items.size - 4 = 0
      · rw [h0]
        rfl
      · rw [if_pos (by omega)]
        have hc : (((items.size - 4 : Nat) : Int) - 0 - -1 - 1) / (- -1) = ((items.size - 4 : Nat) : Int) := by
          rw [show (- -1 : Int) = 1 by decide, Int.ediv_one]; omega
        rw [hc]
        show List.map (fun (k : Nat) => (((items.size - 4 : Nat) : Int) + -1 * (k : Int)).toNat) (List.range (((items.size - 4 : Nat) : Int).toNat)) = _
        rw [Int.toNat_natCast]
        refine List.map_congr_left fun k hk => ?_
        have hk := List.mem_range.mp hk
        show _ = 1 + (items.size - 4 - 1 - k)
        omega
    rw [e, List.filterMap_reverse, pick_run items 1 (items.size - 4)]
    unfold pick3
    rw [List.drop_take, hl, show items.size - 3 - 1 = items.size - 4 by omega]
noncomputable def rPk3 (K : PySem.W.Frag) : V → Hp → VK → Prop := fun x H Q => ∃ a xs, x = .ref a ∧ SqL K H a xs ∧ ∀ p, H p = none → Q (.ref p) (upd H p (.lst (pick3 xs)))
section
variable {X : Cx}
theorem Vals.pick3 {vs : List V} {xs : List Value} (h : Vals vs xs) : Vals (pick3 vs) (pick3 xs) := by
  unfold Pu.pick3
  rw [h.length]
  exact ((h.take _).drop _).reverse
noncomputable def tPk3 (K : PySem.W.Frag) (te : TE) : TE := fun σ H Q => te σ H fun x H1 => rPk3 K x H1 Q
theorem pe_pick3 {e : Expr} {te : TE} {k k4 k0 : Nat} {p1 p2 p3 pos p4 p5 p6 : Pos} (he : PE X e te) : PE X (.Subscript e (.Slice (some (.UnaryOp .USub (.Constant (.int 4) k4 p4) p5)) (some (.Constant (.int 0) k0 p6)) (some (.UnaryOp .USub (.Constant (.int 1) k p1) p2)) p3) pos) (tPk3 X.K te) := by
  refine ⟨fun pins s σ H Q I h => ?_⟩
  refine Subscript_ (thn (he.run pins s σ H _ I h) fun v s1 ⟨x, H1, I1, r1, q1⟩ => ?_)
  have hlo : PO X (some (.UnaryOp .USub (.Constant (.int 4) k4 p4) p5)) (tPart (tUn (rU fun i => .int (-i)) (tC (.int 4)))) := po_some (pe_un un_neg pe_int)
  have hhi : PO X (some (.Constant (.int 0) k0 p6)) (tPart (tC (.int 0))) := po_some pe_int
  have hst : PO X (some (.UnaryOp .USub (.Constant (.int 1) k p1) p2)) (tPart (tUn (rU fun i => .int (-i)) (tC (.int 1)))) := po_some (pe_un un_neg pe_int)
  refine wpAny_Slice (thn (hlo.run pins s1 σ H1 (fun o H2 => o = some (-4) ∧ H2 = H1) I1 ⟨4, rfl, -4, rfl, rfl, rfl⟩) fun vl s2 ⟨l, H2, I2, pl, el, e2⟩ => ?_)
  subst el e2
  refine thn (hhi.run pins s2 σ H2 (fun o H3 => o = some 0 ∧ H3 = H2) I2 ⟨0, rfl, rfl, rfl⟩) fun vu s3 ⟨u, H3, I3, pu, eu, e3⟩ => ?_
  subst eu e3
  refine thn (hst.run pins s3 σ H3 (fun o H4 => o = some (-1) ∧ H4 = H3) I3 ⟨1, rfl, -1, rfl, rfl, rfl⟩) fun vs s4 ⟨o, H4, I4, ps, eo, e4⟩ => ?_
  subst eo e4
  have I5 : Inv X pins σ H4 { s4 with heap := s4.heap.push { cls := .type "slice", data := .fields #[vl, vu, vs] } } := I4.kept (t' := s4.toks) fun b ob q => Heap.get?_push_of_some _ q
  obtain ⟨a, xs, rfl, hx, q⟩ := q1
  cases r1
  obtain ⟨its, r, ht, hz⟩ := I5.list hx
  have hlen := r.length
  have hg : wpAny (model X.prog X.w) X.A (getItem (.ref a) (.ref s4.heap.objs.size)) (EP X pins σ Q) X.xe { s4 with heap := s4.heap.push { cls := .type "slice", data := .fields #[vl, vu, vs] } } := by
    refine wpAny_getItem_list_slice ht.isList (Heap.IsSliceOf.new _ vl vu vs) pl pu ps (by decide) ?_ (by rw [List.size_toArray]; omega)
    rw [pick3_val]
    refine ⟨.ref _, _, I5.laid (t' := s4.toks) (o := .lst (pick3 xs)) (fun b ob q => Heap.get?_push_of_some _ q) (Nat.le_refl _) ?_, rfl, q _ (I5.hok.fresh (Nat.le_refl _))⟩
    refine ⟨?_, _, 0, Vals.pick3 r, Heap.get?_push_size _ rfl⟩
    unfold pick3
    rw [List.length_reverse, List.length_drop, List.length_take]
    omega
  show wpAny (model X.prog X.w) X.A (subscriptTail e (.Slice (some (.UnaryOp .USub (.Constant (.int 4) k4 p4) p5)) (some (.Constant (.int 0) k0 p6)) (some (.UnaryOp .USub (.Constant (.int 1) k p1) p2)) p3) (.ref a) (.ref s4.heap.objs.size)) (EP X pins σ Q) X.xe { s4 with heap := s4.heap.push { cls := .type "slice", data := .fields #[vl, vu, vs] } }
  exact tail_any (ops := [.ref a, .ref s4.heap.objs.size]) ht.isList.typeIs PySem.slot_list_getitem.lookup hg (by with_unfolding_all rfl)
end
section
variable {cl : Str → Addr} {W : WX} {X : Cx} {a : Expr} {f : Ev D} {pos : Pos}
noncomputable def pk3D (d : D) (S : Sto) : Res D := match lsOf S d with
  | some xs => .ok (.lst (pick3 xs)) S
  | none => .bad
@[simp] theorem pk3D_lst {xs : List D} {S : Sto} : pk3D (.lst xs) S = .ok (.lst (pick3 xs)) S := id rfl
theorem VRs.pick3 {K : PySem.W.Frag} {am : AM} {H : Hp} {ds : List D} {vs : List V} (h : VRs K am H ds vs) : VRs K am H (Pu.pick3 ds) (Pu.pick3 vs) := by
  unfold Pu.pick3
  rw [h.length]
  exact ((h.take _).drop _).back
theorem qe_pick3 {k k4 k0 : Nat} {p1 p2 p3 p4 p5 p6 : Pos} (ha : QE cl W X a f) : QE cl W X (.Subscript a (.Slice (some (.UnaryOp .USub (.Constant (.int 4) k4 p4) p5)) (some (.Constant (.int 0) k0 p6)) (some (.UnaryOp .USub (.Constant (.int 1) k p1) p2)) p3) pos) (e1 pk3D f) :=
  (pe_pick3 ha).imp fun σ H Q ⟨am, e, S, rs, re, p⟩ =>
    ⟨am, e, S, rs, re, (Post.step p).imp fun x H1 ⟨am1, S1, d, _, g1, rs1, rv, p1⟩ => by
      have p1 : Post X.K cl W σ (VR X.K) am1 H1 (match lsOf S1 d with | some xs => .ok (.lst (pick3 xs)) S1 | none => .bad) Q := p1
      cases q : lsOf S1 d with
      | none => rw [q] at p1; exact p1.elim
      | some xs =>
        rw [q] at p1
        obtain ⟨a, vs, ev, r1, hs⟩ := lsOf_ok rs1 rv q
        exact ⟨a, vs, ev, r1, fun q hq => p1 am1 _ _ (Grow.upd hq) (rs1.upd hq) (VR.lstNew rs1 hs.pick3 hq)⟩⟩
end
end Pu
set_option Elab.async false
set_option linter.all false
set_option maxRecDepth 100000
namespace Pu
open PySem PySem.Spec PyProof.Rows L2
theorem nLcR2 {vs : List Nat} {tg : Tg} {f g u : Ev D} {e : En} {S : Sto} {ys : List D} {t : Ev Bool} {i j : Int} (hf : f e S = .ok (.int i) S) (hg : g e S = .ok (.int j) S) (h0 : -1000000 < i) (h : i < 1048576) (h2 : -1000000 < j) (h3 : j < 1048576) (hl : (j - i).toNat < 1048576) (q : lcD tg (.tmp (rngD i j)) t u (wipeE e vs) (rngD i j) S = .ok ys S) : nLc vs tg (iR2 f g) t u e S = .ok (.lst ys) S := by
  rw [ap_Lc, ap_iR2, hf, Res.bind_ok, hg, Res.bind_ok, srcR2_ap, if_pos (by unfold Rg62; omega), Res.bind_ok]
  simp only [Src.items_tmp]
  rw [if_pos (Nat.le_of_lt (sz (by simpa using hl))), q, Res.bind_ok]
theorem while_end {dead : List Nat} {t : Ev Bool} {body : Stm} {e : En} {S : Sto} (h : t e S = .ok false S) : whileN dead t body 1 e S = .next e S := by
  unfold whileN
  rw [h]
end Pu
set_option Elab.async false
set_option linter.all false
set_option maxRecDepth 100000
set_option maxHeartbeats 4000000
namespace Lw
open PySem PySem.Spec PyProof.Rows L2 Pu
section
variable {p : List Value → Prop}
theorem us1 (h : ∀ a0, p [a0]) : ∀ us : List Value, us.length = 1 → p us
  | [_], _ => h _
theorem us2 (h : ∀ a0 a1, p [a0, a1]) : ∀ us : List Value, us.length = 2 → p us
  | [_, _], _ => h _ _
theorem us3 (h : ∀ a0 a1 a2, p [a0, a1, a2]) : ∀ us : List Value, us.length = 3 → p us
  | [_, _, _], _ => h _ _ _
theorem us4 (h : ∀ a0 a1 a2 a3, p [a0, a1, a2, a3]) : ∀ us : List Value, us.length = 4 → p us
  | [_, _, _, _], _ => h _ _ _ _
end
noncomputable def topS (i : Nat) : Stmt := PySem.Challenge.pw_walkframe_k21_any_bars_read.main.body.getD i (.Pass ⟨0, 0, 0, 0⟩)
structure Bt (K : PySem.W.Frag) (mg : Str → Option Value) : Prop where
  all : mg "all" = none
  enumerate : mg "enumerate" = none
  int : mg "int" = none
  len : mg "len" = none
  list : mg "list" = none
  min : mg "min" = none
  range : mg "range" = none
  reversed : mg "reversed" = none
  sum : mg "sum" = none
  zip : mg "zip" = none
  g_BARS : ∃ t, mg "BARS" = some (.int 5 t)
  g_BASE : ∃ t, mg "BASE" = some (.int 31 t)
  g_LEAST_FIVES : ∃ t, mg "LEAST_FIVES" = some (.int 5 t)
  g_LONG : ∃ t, mg "LONG" = some (.str "l" t)
  g_LOST : ∃ t, mg "LOST" = some (.str "?" t)
  g_MOST_FIVES : ∃ t, mg "MOST_FIVES" = some (.int 30 t)
  g_MOST_UNCLEAR : ∃ t, mg "MOST_UNCLEAR" = some (.int 3 t)
  g_SHORT : ∃ t, mg "SHORT" = some (.str "s" t)
  g_SUMS : ∃ t, mg "SUMS" = some (.int 3 t)
section
variable {P : Program} {w : World} {K : PySem.W.Frag} {mg : Str → Option Value} {base : Heap} {cl : Str → Addr}
noncomputable abbrev snumber_of : Stmt := topS 13
theorem cnumber_of : FnScope ["digits", "found", "digit"] ["digits"] (defScope snumber_of) := ⟨rfl, rfl, rfl, by decide +kernel, rfl, by decide +kernel, by decide +kernel⟩
noncomputable def bnumber_of_1 : Stm := (sSet 1 (e2 addD (e2 mulD (eVar 1) (eC (.int 31))) (eVar 2)))
noncomputable def bnumber_of : Stm := (sSeq (sSet 1 (eC (.int 0)))
    (sSeq (sFgt [2] (sFor [2] (.nm 2) (iRv (eVar 0)) bnumber_of_1))
    (sRet (eVar 1))))
noncomputable def Fnumber_of : List D → Sto → Res D := runD .frz 3 bnumber_of
theorem knumber_of (T : Bt K mg) (I : DefIn K mg "number_of" snumber_of ["digits"])  : DefOk P w K mg base cl "number_of" 1 ["digits"] Fnumber_of := by
  refine def_ok (k := 0) I cnumber_of fun f cdv A outer s H E hr => ?_
  have nd := cnumber_of.nd
  have tk : L2N.Takes (cxOf (L2N.CX P w) P w K mg base ["digits", "found", "digit"] "number_of" (defScope snumber_of) f cdv A outer s H E) (fun c d _ H => E c d H)   := L2N.takes_of rfl rfl rfl rfl
  have hp : PassesOwn (model P w) (cxOf (L2N.CX P w) P w K mg base ["digits", "found", "digit"] "number_of" (defScope snumber_of) f cdv A outer s H E).A (cxOf (L2N.CX P w) P w K mg base ["digits", "found", "digit"] "number_of" (defScope snumber_of) f cdv A outer s H E).env (cxOf (L2N.CX P w) P w K mg base ["digits", "found", "digit"] "number_of" (defScope snumber_of) f cdv A outer s H E).xe := passes_of rfl
  exact (qb_cons (qs_set nd rfl (by first | exact Or.inl rfl | exact Or.inr rfl) qe_int)
    (qb_cons (qs_fgt [2] (qs_for [2] hp rfl (qi_rv (by rfl) T.reversed (qv 0)) (qg_nm nd rfl (by first | exact Or.inl rfl | exact Or.inr rfl))
    (qb_one (qs_set nd rfl (by first | exact Or.inl rfl | exact Or.inr rfl) (qe_add (qe_mul (qv 1) (qe_gInt (by rfl) T.g_BASE)) (qv 2))))))
    (qb_one (qs_ret (qv 1)))))
noncomputable abbrev ssums_of : Stmt := topS 14
theorem csums_of : FnScope ["symbols", "plain", "once", "twice", "k", "symbol"] ["symbols"] (defScope ssums_of) := ⟨rfl, rfl, rfl, by decide +kernel, rfl, by decide +kernel, by decide +kernel⟩
noncomputable def bsums_of : Stm := (sSeq (sSet 1 (eCall smB [(eVar 0)]))
    (sSeq (sSet 2 (eCall (intsD fun ns => .int ns.sum) [(eAno (nLc [4, 5] (.tp [(.nm 4), (.nm 5)]) (iEA (eVar 0)) tYesD (e2 mulD (eVar 5) (e2 addD (eVar 4) (eC (.int 1))))))]))
    (sSeq (sSet 3 (eCall (intsD fun ns => .int ns.sum) [(eAno (nLc [4, 5] (.tp [(.nm 4), (.nm 5)]) (iEA (eVar 0)) tYesD (e2 mulD (e2 mulD (eVar 5) (e2 addD (eVar 4) (eC (.int 1)))) (e2 addD (eVar 4) (eC (.int 1))))))]))
    (sRet (eTup [(e2 modD (eVar 1) (eC (.int 31))), (e2 modD (eVar 2) (eC (.int 31))), (e2 modD (eVar 3) (eC (.int 31)))])))))
noncomputable def Fsums_of : List D → Sto → Res D := runD .frz 6 bsums_of
theorem ksums_of (T : Bt K mg) (I : DefIn K mg "sums_of" ssums_of ["symbols"])  : DefOk P w K mg base cl "sums_of" 1 ["symbols"] Fsums_of := by
  refine def_ok (k := 0) I csums_of fun f cdv A outer s H E hr => ?_
  have nd := csums_of.nd
  have tk : L2N.Takes (cxOf (L2N.CX P w) P w K mg base ["symbols", "plain", "once", "twice", "k", "symbol"] "sums_of" (defScope ssums_of) f cdv A outer s H E) (fun c d _ H => E c d H)   := L2N.takes_of rfl rfl rfl rfl
  have hp : PassesOwn (model P w) (cxOf (L2N.CX P w) P w K mg base ["symbols", "plain", "once", "twice", "k", "symbol"] "sums_of" (defScope ssums_of) f cdv A outer s H E).A (cxOf (L2N.CX P w) P w K mg base ["symbols", "plain", "once", "twice", "k", "symbol"] "sums_of" (defScope ssums_of) f cdv A outer s H E).env (cxOf (L2N.CX P w) P w K mg base ["symbols", "plain", "once", "twice", "k", "symbol"] "sums_of" (defScope ssums_of) f cdv A outer s H E).xe := passes_of rfl
  exact (qb_cons (qs_set nd rfl (by first | exact Or.inl rfl | exact Or.inr rfl) (qe_sumB rfl (by rfl) T.sum (qa_cons (qv 0) qa_nil)))
    (qb_cons (qs_set nd rfl (by first | exact Or.inl rfl | exact Or.inr rfl) (qe_sum rfl (by rfl) T.sum (qa_cons (qe_ano (qn_lc (own := [("k", 4), ("symbol", 5)]) rfl nd (qi_enuA (by rfl) T.enumerate (qv 0)) (blkOk_by (by rfl)) (by decide) (fun _ _ _ _ _ => (qg_tp rfl (qgs_cons (qg_nm nd rfl (by first | exact Or.inl rfl | exact Or.inr rfl)) (qgs_cons (qg_nm nd rfl (by first | exact Or.inl rfl | exact Or.inr rfl)) qgs_nil)) rfl)) (fun _ _ _ _ _ => qts_nil) (fun _ _ _ _ _ => (qe_mul (qv 5) (qe_add (qv 4) qe_int))))) qa_nil)))
    (qb_cons (qs_set nd rfl (by first | exact Or.inl rfl | exact Or.inr rfl) (qe_sum rfl (by rfl) T.sum (qa_cons (qe_ano (qn_lc (own := [("k", 4), ("symbol", 5)]) rfl nd (qi_enuA (by rfl) T.enumerate (qv 0)) (blkOk_by (by rfl)) (by decide) (fun _ _ _ _ _ => (qg_tp rfl (qgs_cons (qg_nm nd rfl (by first | exact Or.inl rfl | exact Or.inr rfl)) (qgs_cons (qg_nm nd rfl (by first | exact Or.inl rfl | exact Or.inr rfl)) qgs_nil)) rfl)) (fun _ _ _ _ _ => qts_nil) (fun _ _ _ _ _ => (qe_mul (qe_mul (qv 5) (qe_add (qv 4) qe_int)) (qe_add (qv 4) qe_int))))) qa_nil)))
    (qb_one (qs_ret (qe_tup (qa_cons (qe_mod (qv 1) (qe_gInt (by rfl) T.g_BASE)) (qa_cons (qe_mod (qv 2) (qe_gInt (by rfl) T.g_BASE)) (qa_cons (qe_mod (qv 3) (qe_gInt (by rfl) T.g_BASE)) qa_nil)))))))))
noncomputable abbrev sinverse : Stmt := topS 15
theorem cinverse : FnScope ["number"] ["number"] (defScope sinverse) := ⟨rfl, rfl, rfl, by decide +kernel, rfl, by decide +kernel, by decide +kernel⟩
noncomputable def binverse : Stm := (sRet (e2 modD (e2 powD (e2 modD (eVar 0) (eC (.int 31))) (eC (.int 29))) (eC (.int 31))))
noncomputable def Finverse : List D → Sto → Res D := runD .frz 1 binverse
theorem kinverse (T : Bt K mg) (I : DefIn K mg "inverse" sinverse ["number"])  : DefOk P w K mg base cl "inverse" 1 ["number"] Finverse := by
  refine def_ok (k := 0) I cinverse fun f cdv A outer s H E hr => ?_
  have nd := cinverse.nd
  have tk : L2N.Takes (cxOf (L2N.CX P w) P w K mg base ["number"] "inverse" (defScope sinverse) f cdv A outer s H E) (fun c d _ H => E c d H)   := L2N.takes_of rfl rfl rfl rfl
  have hp : PassesOwn (model P w) (cxOf (L2N.CX P w) P w K mg base ["number"] "inverse" (defScope sinverse) f cdv A outer s H E).A (cxOf (L2N.CX P w) P w K mg base ["number"] "inverse" (defScope sinverse) f cdv A outer s H E).env (cxOf (L2N.CX P w) P w K mg base ["number"] "inverse" (defScope sinverse) f cdv A outer s H E).xe := passes_of rfl
  exact (qb_one (qs_ret (qe_mod (qe_pow (qe_mod (qv 0) (qe_gInt (by rfl) T.g_BASE)) qe_int) (qe_gInt (by rfl) T.g_BASE))))
noncomputable abbrev sshare_at : Stmt := topS 16
theorem cshare_at : FnScope ["place", "one", "other", "sums", "plain", "once", "twice", "whole"] ["place", "one", "other", "sums"] (defScope sshare_at) := ⟨rfl, rfl, rfl, by decide +kernel, rfl, by decide +kernel, by decide +kernel⟩
noncomputable def bshare_at : Stm := (sSeq (sAsg (.tp [(.nm 4), (.nm 5), (.nm 6)]) (eVar 3))
    (sSeq (sSet 7 (e2 addD (e2 subD (eVar 6) (e2 mulD (e2 addD (eVar 1) (eVar 2)) (eVar 5))) (e2 mulD (e2 mulD (eVar 1) (eVar 2)) (eVar 4))))
    (sRet (e2 modD (e2 mulD (e1 negD (eVar 7)) (eFn Finverse [(e2 mulD (e2 subD (eVar 0) (eVar 1)) (e2 subD (eVar 0) (eVar 2)))])) (eC (.int 31))))))
noncomputable def Fshare_at : List D → Sto → Res D := runD .frz 8 bshare_at
theorem kshare_at (T : Bt K mg) (I : DefIn K mg "share_at" sshare_at ["place", "one", "other", "sums"]) (Ginverse : DefOk P w K mg base cl "inverse" 1 ["number"] Finverse) : DefOk P w K mg base cl "share_at" 2 ["place", "one", "other", "sums"] Fshare_at := by
  refine def_ok (k := 1) I cshare_at fun f cdv A outer s H E hr => ?_
  have nd := cshare_at.nd
  have tk : L2N.Takes (cxOf (L2N.CX P w) P w K mg base ["place", "one", "other", "sums", "plain", "once", "twice", "whole"] "share_at" (defScope sshare_at) f cdv A outer s H E) (fun c d _ H => E c d H)   := L2N.takes_of rfl rfl rfl rfl
  have hp : PassesOwn (model P w) (cxOf (L2N.CX P w) P w K mg base ["place", "one", "other", "sums", "plain", "once", "twice", "whole"] "share_at" (defScope sshare_at) f cdv A outer s H E).A (cxOf (L2N.CX P w) P w K mg base ["place", "one", "other", "sums", "plain", "once", "twice", "whole"] "share_at" (defScope sshare_at) f cdv A outer s H E).env (cxOf (L2N.CX P w) P w K mg base ["place", "one", "other", "sums", "plain", "once", "twice", "whole"] "share_at" (defScope sshare_at) f cdv A outer s H E).xe := passes_of rfl
  exact (qb_cons (qs_asg (qv 3) (qg_tp rfl (qgs_cons (qg_nm nd rfl (by first | exact Or.inl rfl | exact Or.inr rfl)) (qgs_cons (qg_nm nd rfl (by first | exact Or.inl rfl | exact Or.inr rfl)) (qgs_cons (qg_nm nd rfl (by first | exact Or.inl rfl | exact Or.inr rfl)) qgs_nil))) rfl))
    (qb_cons (qs_set nd rfl (by first | exact Or.inl rfl | exact Or.inr rfl) (qe_add (qe_sub (qv 6) (qe_mul (qe_add (qv 1) (qv 2)) (qv 5))) (qe_mul (qe_mul (qv 1) (qv 2)) (qv 4))))
    (qb_one (qs_ret (qe_mod (qe_mul (qe_neg (qv 7)) (qe_fn (Ginverse.mono (by decide)) hr (by rfl) tk (qa_cons (qe_mul (qe_sub (qv 0) (qv 1)) (qe_sub (qv 0) (qv 2))) qa_nil))) (qe_gInt (by rfl) T.g_BASE))))))
noncomputable abbrev sfilled : Stmt := topS 17
theorem cfilled : FnScope ["symbols", "places", "sums", "made", "k", "place", "others"] ["symbols", "places"] (defScope sfilled) := ⟨rfl, rfl, rfl, by decide +kernel, rfl, by decide +kernel, by decide +kernel⟩
noncomputable def bfilled_1 : Stm := (sSeq (sSet 6 (e2 addD (eSl (eVar 1) pN (pE (eVar 4))) (eSl (eVar 1) (pE (e2 addD (eVar 4) (eC (.int 1)))) pN)))
    (sSt (e2 modD (e2 addD (e2 ixD (eVar 3) (e2 subD (eVar 5) (eC (.int 1)))) (eFn Fshare_at [(eVar 5), (e2 ixD (eVar 6) (eC (.int 0))), (e2 ixD (eVar 6) (eC (.int 1))), (eVar 2)])) (eC (.int 31))) (eVar 3) (e2 subD (eVar 5) (eC (.int 1)))))
noncomputable def bfilled : Stm := (sSeq (sSet 2 (eFn Fsums_of [(eVar 0)]))
    (sSeq (sSet 3 (eNew (nListOf (eVar 0))))
    (sSeq (sFgt [4, 5, 6] (sFor [4, 5, 6] (.tp [(.nm 4), (.nm 5)]) (iEA (eVar 1)) bfilled_1))
    (sRet (eVar 3)))))
noncomputable def Ffilled : List D → Sto → Res D := runD .frz 7 bfilled
theorem kfilled (T : Bt K mg) (I : DefIn K mg "filled" sfilled ["symbols", "places"]) (Gsums_of : DefOk P w K mg base cl "sums_of" 1 ["symbols"] Fsums_of) (Gshare_at : DefOk P w K mg base cl "share_at" 2 ["place", "one", "other", "sums"] Fshare_at) : DefOk P w K mg base cl "filled" 3 ["symbols", "places"] Ffilled := by
  refine def_ok (k := 2) I cfilled fun f cdv A outer s H E hr => ?_
  have nd := cfilled.nd
  have tk : L2N.Takes (cxOf (L2N.CX P w) P w K mg base ["symbols", "places", "sums", "made", "k", "place", "others"] "filled" (defScope sfilled) f cdv A outer s H E) (fun c d _ H => E c d H)   := L2N.takes_of rfl rfl rfl rfl
  have hp : PassesOwn (model P w) (cxOf (L2N.CX P w) P w K mg base ["symbols", "places", "sums", "made", "k", "place", "others"] "filled" (defScope sfilled) f cdv A outer s H E).A (cxOf (L2N.CX P w) P w K mg base ["symbols", "places", "sums", "made", "k", "place", "others"] "filled" (defScope sfilled) f cdv A outer s H E).env (cxOf (L2N.CX P w) P w K mg base ["symbols", "places", "sums", "made", "k", "place", "others"] "filled" (defScope sfilled) f cdv A outer s H E).xe := passes_of rfl
  exact (qb_cons (qs_set nd rfl (by first | exact Or.inl rfl | exact Or.inr rfl) (qe_fn (Gsums_of.mono (by decide)) hr (by rfl) tk (qa_cons (qv 0) qa_nil)))
    (qb_cons (qs_set nd rfl (by first | exact Or.inl rfl | exact Or.inr rfl) (qe_new (qn_list (by rfl) T.list (qv 0))))
    (qb_cons (qs_fgt [4, 5, 6] (qs_for [4, 5, 6] hp rfl (qi_enuA (by rfl) T.enumerate (qv 1)) (qg_tp rfl (qgs_cons (qg_nm nd rfl (by first | exact Or.inl rfl | exact Or.inr rfl)) (qgs_cons (qg_nm nd rfl (by first | exact Or.inl rfl | exact Or.inr rfl)) qgs_nil)) rfl)
    (qb_cons (qs_set nd rfl (by first | exact Or.inl rfl | exact Or.inr rfl) (qe_add (qe_sl (qv 1) qp_n (qp_e (qv 4))) (qe_sl (qv 1) (qp_e (qe_add (qv 4) qe_int)) qp_n)))
    (qb_one (qs_st hr (qe_mod (qe_add (qe_ix hr (qv 3) (qe_sub (qv 5) qe_int)) (qe_fn (Gshare_at.mono (by decide)) hr (by rfl) tk (qa_cons (qv 5) (qa_cons (qe_ix hr (qv 6) qe_int) (qa_cons (qe_ix hr (qv 6) qe_int) (qa_cons (qv 2) qa_nil)))))) (qe_gInt (by rfl) T.g_BASE)) (qv 3) (qe_sub (qv 5) qe_int))))))
    (qb_one (qs_ret (qv 3))))))
noncomputable abbrev ssymbol_in : Stmt := topS 18
theorem csymbol_in : FnScope ["five", "found", "bar"] ["five"] (defScope ssymbol_in) := ⟨rfl, rfl, rfl, by decide +kernel, rfl, by decide +kernel, by decide +kernel⟩
noncomputable def bsymbol_in_1 : Stm := (sSeq (sIf (eTB (e2 (eqD false) (eVar 2) (eC (.str "?")))) (sRet (eC .non)) sNext)
    (sSet 1 (e2 addD (e2 mulD (eC (.int 2)) (eVar 1)) (eCall int1D [(e2 (eqD false) (eVar 2) (eC (.str "l")))]))))
noncomputable def bsymbol_in : Stm := (sSeq (sSet 1 (eC (.int 0)))
    (sSeq (sFgt [2] (sFor [2] (.nm 2) (iTx (eVar 0)) bsymbol_in_1))
    (sRet (eIf (eTB (e2 ltD (eVar 1) (eC (.int 31)))) (eVar 1) (eC .non)))))
noncomputable def Fsymbol_in : List D → Sto → Res D := runD .frz 3 bsymbol_in
theorem ksymbol_in (T : Bt K mg) (I : DefIn K mg "symbol_in" ssymbol_in ["five"])  : DefOk P w K mg base cl "symbol_in" 1 ["five"] Fsymbol_in := by
  refine def_ok (k := 0) I csymbol_in fun f cdv A outer s H E hr => ?_
  have nd := csymbol_in.nd
  have tk : L2N.Takes (cxOf (L2N.CX P w) P w K mg base ["five", "found", "bar"] "symbol_in" (defScope ssymbol_in) f cdv A outer s H E) (fun c d _ H => E c d H)   := L2N.takes_of rfl rfl rfl rfl
  have hp : PassesOwn (model P w) (cxOf (L2N.CX P w) P w K mg base ["five", "found", "bar"] "symbol_in" (defScope ssymbol_in) f cdv A outer s H E).A (cxOf (L2N.CX P w) P w K mg base ["five", "found", "bar"] "symbol_in" (defScope ssymbol_in) f cdv A outer s H E).env (cxOf (L2N.CX P w) P w K mg base ["five", "found", "bar"] "symbol_in" (defScope ssymbol_in) f cdv A outer s H E).xe := passes_of rfl
  exact (qb_cons (qs_set nd rfl (by first | exact Or.inl rfl | exact Or.inr rfl) qe_int)
    (qb_cons (qs_fgt [2] (qs_for [2] hp rfl (qi_tx (qv 0)) (qg_nm nd rfl (by first | exact Or.inl rfl | exact Or.inr rfl))
    (qb_cons (qs_if (qt_eq hr (qv 2) (qe_gStr (by rfl) T.g_LOST)) (qb_one (qs_ret qe_non)) qb_nil)
    (qb_one (qs_set nd rfl (by first | exact Or.inl rfl | exact Or.inr rfl) (qe_add (qe_mul qe_int (qv 1)) (qe_intOf (by rfl) T.int (qa_cons (qe_eq hr (qv 2) (qe_gStr (by rfl) T.g_LONG)) qa_nil))))))))
    (qb_one (qs_ret (qe_if (qt_lt (qv 1) (qe_gInt (by rfl) T.g_BASE)) (qv 1) qe_non)))))
noncomputable abbrev sthree_places : Stmt := topS 19
theorem cthree_places : FnScope ["free", "many", "others", "place"] ["free", "many"] (defScope sthree_places) := ⟨rfl, rfl, rfl, by decide +kernel, rfl, by decide +kernel, by decide +kernel⟩
noncomputable def bthree_places : Stm := (sSeq (sSet 2 (eAno (nLc [3] (.nm 3) (iR2 (eC (.int 1)) (e2 addD (eVar 1) (eC (.int 1)))) (eTB (e2 (inD true) (eVar 3) (eVar 0))) (eVar 3))))
    (sRet (e2 addD (eVar 0) (eSl (eVar 2) pN (pE (e2 subD (eC (.int 3)) (eCall lenD [(eVar 0)])))))))
noncomputable def Fthree_places : List D → Sto → Res D := runD .frz 4 bthree_places
theorem kthree_places (T : Bt K mg) (I : DefIn K mg "three_places" sthree_places ["free", "many"])  : DefOk P w K mg base cl "three_places" 1 ["free", "many"] Fthree_places := by
  refine def_ok (k := 0) I cthree_places fun f cdv A outer s H E hr => ?_
  have nd := cthree_places.nd
  have tk : L2N.Takes (cxOf (L2N.CX P w) P w K mg base ["free", "many", "others", "place"] "three_places" (defScope sthree_places) f cdv A outer s H E) (fun c d _ H => E c d H)   := L2N.takes_of rfl rfl rfl rfl
  have hp : PassesOwn (model P w) (cxOf (L2N.CX P w) P w K mg base ["free", "many", "others", "place"] "three_places" (defScope sthree_places) f cdv A outer s H E).A (cxOf (L2N.CX P w) P w K mg base ["free", "many", "others", "place"] "three_places" (defScope sthree_places) f cdv A outer s H E).env (cxOf (L2N.CX P w) P w K mg base ["free", "many", "others", "place"] "three_places" (defScope sthree_places) f cdv A outer s H E).xe := passes_of rfl
  exact (qb_cons (qs_setLc (own := [("place", 3)]) rfl nd rfl rfl (sw_true rfl rfl rfl (by decide +kernel)) (qi_r2 (by rfl) T.range qe_int (qe_add (qv 1) qe_int)) (blkOk_by (by rfl)) (by decide) (fun _ _ _ _ _ => (qg_nm nd rfl (by first | exact Or.inl rfl | exact Or.inr rfl))) (fun _ _ _ _ _ => (qts_one (qt_notIn hr (qv 3) (qv 0)))) (fun _ _ _ _ _ => (qv 3)) imp_ano)
    (qb_one (qs_ret (qe_add (qv 0) (qe_sl (qv 2) qp_n (qp_e (qe_sub (qe_gInt (by rfl) T.g_SUMS) (qe_len (by rfl) T.len (qa_cons (qv 0) qa_nil)))))))))
noncomputable abbrev smended : Stmt := topS 20
theorem cmended : FnScope ["symbols", "free", "places", "made", "place"] ["symbols", "free"] (defScope smended) := ⟨rfl, rfl, rfl, by decide +kernel, rfl, by decide +kernel, by decide +kernel⟩
noncomputable def bmended_1 : Stm := (sIf (eTB (e2 (eqD true) (e2 ixD (eVar 3) (e2 subD (eVar 4) (eC (.int 1)))) (e2 ixD (eVar 0) (e2 subD (eVar 4) (eC (.int 1)))))) (sRet (eC .non)) sNext)
noncomputable def bmended : Stm := (sSeq (sSet 2 (eFn Fthree_places [(eVar 1), (eCall lenD [(eVar 0)])]))
    (sSeq (sSet 3 (eFn Ffilled [(eVar 0), (eVar 2)]))
    (sSeq (sFgt [4] (sFor [4] (.nm 4) (iS (eSl (eVar 2) (pE (eCall lenD [(eVar 1)])) pN)) bmended_1))
    (sRet (eVar 3)))))
noncomputable def Fmended : List D → Sto → Res D := runD .frz 5 bmended
theorem kmended (T : Bt K mg) (I : DefIn K mg "mended" smended ["symbols", "free"]) (Gthree_places : DefOk P w K mg base cl "three_places" 1 ["free", "many"] Fthree_places) (Gfilled : DefOk P w K mg base cl "filled" 3 ["symbols", "places"] Ffilled) : DefOk P w K mg base cl "mended" 4 ["symbols", "free"] Fmended := by
  refine def_ok (k := 3) I cmended fun f cdv A outer s H E hr => ?_
  have nd := cmended.nd
  have tk : L2N.Takes (cxOf (L2N.CX P w) P w K mg base ["symbols", "free", "places", "made", "place"] "mended" (defScope smended) f cdv A outer s H E) (fun c d _ H => E c d H)   := L2N.takes_of rfl rfl rfl rfl
  have hp : PassesOwn (model P w) (cxOf (L2N.CX P w) P w K mg base ["symbols", "free", "places", "made", "place"] "mended" (defScope smended) f cdv A outer s H E).A (cxOf (L2N.CX P w) P w K mg base ["symbols", "free", "places", "made", "place"] "mended" (defScope smended) f cdv A outer s H E).env (cxOf (L2N.CX P w) P w K mg base ["symbols", "free", "places", "made", "place"] "mended" (defScope smended) f cdv A outer s H E).xe := passes_of rfl
  exact (qb_cons (qs_set nd rfl (by first | exact Or.inl rfl | exact Or.inr rfl) (qe_fn (Gthree_places.mono (by decide)) hr (by rfl) tk (qa_cons (qv 1) (qa_cons (qe_len (by rfl) T.len (qa_cons (qv 0) qa_nil)) qa_nil))))
    (qb_cons (qs_set nd rfl (by first | exact Or.inl rfl | exact Or.inr rfl) (qe_fn (Gfilled.mono (by decide)) hr (by rfl) tk (qa_cons (qv 0) (qa_cons (qv 2) qa_nil))))
    (qb_cons (qs_fgt [4] (qs_for [4] hp rfl (qi_s (qe_sl (qv 2) (qp_e (qe_len (by rfl) T.len (qa_cons (qv 1) qa_nil))) qp_n)) (qg_nm nd rfl (by first | exact Or.inl rfl | exact Or.inr rfl))
    (qb_one (qs_if (qt_ne hr (qe_ix hr (qv 3) (qe_sub (qv 4) qe_int)) (qe_ix hr (qv 0) (qe_sub (qv 4) qe_int))) (qb_one (qs_ret qe_non)) qb_nil))))
    (qb_one (qs_ret (qv 3))))))
noncomputable abbrev saddress_in : Stmt := topS 21
theorem caddress_in : FnScope ["symbols", "digits"] ["symbols"] (defScope saddress_in) := ⟨rfl, rfl, rfl, by decide +kernel, rfl, by decide +kernel, by decide +kernel⟩
noncomputable def baddress_in : Stm := (sSeq (sSet 1 (eSl (eVar 0) (pE (eC (.int 1))) (pE (e1 negD (eC (.int 3))))))
    (sRet (eIf (eTB (e2 (eqD true) (e2 ixD (eVar 1) (e1 negD (eC (.int 1)))) (eC (.int 0)))) (eTup [(e2 ixD (eVar 0) (eC (.int 0))), (eFn Fnumber_of [(eVar 1)])]) (eC .non))))
noncomputable def Faddress_in : List D → Sto → Res D := runD .frz 2 baddress_in
theorem kaddress_in (T : Bt K mg) (I : DefIn K mg "address_in" saddress_in ["symbols"]) (Gnumber_of : DefOk P w K mg base cl "number_of" 1 ["digits"] Fnumber_of) : DefOk P w K mg base cl "address_in" 2 ["symbols"] Faddress_in := by
  refine def_ok (k := 1) I caddress_in fun f cdv A outer s H E hr => ?_
  have nd := caddress_in.nd
  have tk : L2N.Takes (cxOf (L2N.CX P w) P w K mg base ["symbols", "digits"] "address_in" (defScope saddress_in) f cdv A outer s H E) (fun c d _ H => E c d H)   := L2N.takes_of rfl rfl rfl rfl
  have hp : PassesOwn (model P w) (cxOf (L2N.CX P w) P w K mg base ["symbols", "digits"] "address_in" (defScope saddress_in) f cdv A outer s H E).A (cxOf (L2N.CX P w) P w K mg base ["symbols", "digits"] "address_in" (defScope saddress_in) f cdv A outer s H E).env (cxOf (L2N.CX P w) P w K mg base ["symbols", "digits"] "address_in" (defScope saddress_in) f cdv A outer s H E).xe := passes_of rfl
  exact (qb_cons (qs_set nd rfl (by first | exact Or.inl rfl | exact Or.inr rfl) (qe_sl (qv 0) (qp_e qe_int) (qp_e (qe_neg (qe_gInt (by rfl) T.g_SUMS)))))
    (qb_one (qs_ret (qe_if (qt_ne hr (qe_ix hr (qv 1) (qe_neg qe_int)) qe_int) (qe_tup (qa_cons (qe_ix hr (qv 0) qe_int) (qa_cons (qe_fn (Gnumber_of.mono (by decide)) hr (by rfl) tk (qa_cons (qv 1) qa_nil)) qa_nil))) qe_non))))
noncomputable abbrev ssuspects : Stmt := topS 22
theorem csuspects : FnScope ["lost", "many", "place"] ["lost", "many"] (defScope ssuspects) := ⟨rfl, rfl, rfl, by decide +kernel, rfl, by decide +kernel, by decide +kernel⟩
noncomputable def bsuspects : Stm := (sSeq (sIf (eTB (e2 gtD (eCall lenD [(eVar 0)]) (eC (.int 1)))) (sRet (eAno (nLst [(eVar 0)]))) sNext)
    (sRet (e2 addD (eAno (nLst [(eVar 0)])) (eAno (nLc [2] (.nm 2) (iR2 (eC (.int 1)) (e2 addD (eVar 1) (eC (.int 1)))) (eTB (e2 (inD true) (eVar 2) (eVar 0))) (e2 addD (eVar 0) (eAno (nLst [(eVar 2)]))))))))
noncomputable def Fsuspects : List D → Sto → Res D := runD .frz 3 bsuspects
theorem ksuspects (T : Bt K mg) (I : DefIn K mg "suspects" ssuspects ["lost", "many"])  : DefOk P w K mg base cl "suspects" 1 ["lost", "many"] Fsuspects := by
  refine def_ok (k := 0) I csuspects fun f cdv A outer s H E hr => ?_
  have nd := csuspects.nd
  have tk : L2N.Takes (cxOf (L2N.CX P w) P w K mg base ["lost", "many", "place"] "suspects" (defScope ssuspects) f cdv A outer s H E) (fun c d _ H => E c d H)   := L2N.takes_of rfl rfl rfl rfl
  have hp : PassesOwn (model P w) (cxOf (L2N.CX P w) P w K mg base ["lost", "many", "place"] "suspects" (defScope ssuspects) f cdv A outer s H E).A (cxOf (L2N.CX P w) P w K mg base ["lost", "many", "place"] "suspects" (defScope ssuspects) f cdv A outer s H E).env (cxOf (L2N.CX P w) P w K mg base ["lost", "many", "place"] "suspects" (defScope ssuspects) f cdv A outer s H E).xe := passes_of rfl
  exact (qb_cons (qs_if (qt_gt (qe_len (by rfl) T.len (qa_cons (qv 0) qa_nil)) qe_int) (qb_one (qs_ret (qe_ano (qn_lst (qa_cons (qv 0) qa_nil))))) qb_nil)
    (qb_one (qs_ret (qe_add (qe_ano (qn_lst (qa_cons (qv 0) qa_nil))) (qe_ano (qn_lc (own := [("place", 2)]) rfl nd (qi_r2 (by rfl) T.range qe_int (qe_add (qv 1) qe_int)) (blkOk_by (by rfl)) (by decide) (fun _ _ _ _ _ => (qg_nm nd rfl (by first | exact Or.inl rfl | exact Or.inr rfl))) (fun _ _ _ _ _ => (qts_one (qt_notIn hr (qv 2) (qv 0)))) (fun _ _ _ _ _ => (qe_add (qv 0) (qe_ano (qn_lst (qa_cons (qv 2) qa_nil)))))))))))
noncomputable abbrev sread_fives : Stmt := topS 23
theorem cread_fives : FnScope ["symbols", "lost", "plain", "free", "made", "k", "symbol"] ["symbols"] (defScope sread_fives) := ⟨rfl, rfl, rfl, by decide +kernel, rfl, by decide +kernel, by decide +kernel⟩
noncomputable def bread_fives_1 : Stm := (sSeq (sSet 4 (eFn Fmended [(eVar 2), (eVar 3)]))
    (sIf (eTB (e1 (isND true) (eVar 4))) (sRet (eFn Faddress_in [(eVar 4)])) sNext))
noncomputable def bread_fives : Stm := (sSeq (sSet 1 (eAno (nLc [5, 6] (.tp [(.nm 5), (.nm 6)]) (iEA (eVar 0)) (eTB (e1 (isND false) (eVar 6))) (e2 addD (eVar 5) (eC (.int 1))))))
    (sSeq (sIf (eTB (e2 gtD (eCall lenD [(eVar 1)]) (eC (.int 3)))) (sRet (eC .non)) sNext)
    (sSeq (sSet 2 (eAno (nLc [6] (.nm 6) (iS (eVar 0)) tYesD (eIf (eTB (e1 (isND true) (eVar 6))) (eVar 6) (eC (.int 0))))))
    (sSeq (sFgt [3, 4] (sFor [3, 4] (.nm 3) (iS (eFn Fsuspects [(eVar 1), (eCall lenD [(eVar 0)])])) bread_fives_1))
    (sRet (eC .non))))))
noncomputable def Fread_fives : List D → Sto → Res D := runD .frz 7 bread_fives
theorem kread_fives (T : Bt K mg) (I : DefIn K mg "read_fives" sread_fives ["symbols"]) (Gsuspects : DefOk P w K mg base cl "suspects" 1 ["lost", "many"] Fsuspects) (Gmended : DefOk P w K mg base cl "mended" 4 ["symbols", "free"] Fmended) (Gaddress_in : DefOk P w K mg base cl "address_in" 2 ["symbols"] Faddress_in) : DefOk P w K mg base cl "read_fives" 5 ["symbols"] Fread_fives := by
  refine def_ok (k := 4) I cread_fives fun f cdv A outer s H E hr => ?_
  have nd := cread_fives.nd
  have tk : L2N.Takes (cxOf (L2N.CX P w) P w K mg base ["symbols", "lost", "plain", "free", "made", "k", "symbol"] "read_fives" (defScope sread_fives) f cdv A outer s H E) (fun c d _ H => E c d H)   := L2N.takes_of rfl rfl rfl rfl
  have hp : PassesOwn (model P w) (cxOf (L2N.CX P w) P w K mg base ["symbols", "lost", "plain", "free", "made", "k", "symbol"] "read_fives" (defScope sread_fives) f cdv A outer s H E).A (cxOf (L2N.CX P w) P w K mg base ["symbols", "lost", "plain", "free", "made", "k", "symbol"] "read_fives" (defScope sread_fives) f cdv A outer s H E).env (cxOf (L2N.CX P w) P w K mg base ["symbols", "lost", "plain", "free", "made", "k", "symbol"] "read_fives" (defScope sread_fives) f cdv A outer s H E).xe := passes_of rfl
  exact (qb_cons (qs_setLc (own := [("k", 5), ("symbol", 6)]) rfl nd rfl rfl (sw_true rfl rfl rfl (by decide +kernel)) (qi_enuA (by rfl) T.enumerate (qv 0)) (blkOk_by (by rfl)) (by decide) (fun _ _ _ _ _ => (qg_tp rfl (qgs_cons (qg_nm nd rfl (by first | exact Or.inl rfl | exact Or.inr rfl)) (qgs_cons (qg_nm nd rfl (by first | exact Or.inl rfl | exact Or.inr rfl)) qgs_nil)) rfl)) (fun _ _ _ _ _ => (qts_one (qt_isN (qv 6)))) (fun _ _ _ _ _ => (qe_add (qv 5) qe_int)) imp_ano)
    (qb_cons (qs_if (qt_gt (qe_len (by rfl) T.len (qa_cons (qv 1) qa_nil)) (qe_gInt (by rfl) T.g_MOST_UNCLEAR)) (qb_one (qs_ret qe_non)) qb_nil)
    (qb_cons (qs_setLc (own := [("symbol", 6)]) rfl nd rfl rfl (sw_true rfl rfl rfl (by decide +kernel)) (qi_s (qv 0)) (blkOk_by (by rfl)) (by decide) (fun _ _ _ _ _ => (qg_nm nd rfl (by first | exact Or.inl rfl | exact Or.inr rfl))) (fun _ _ _ _ _ => qts_nil) (fun _ _ _ _ _ => (qe_if (qt_notN (qv 6)) (qv 6) qe_int)) imp_ano)
    (qb_cons (qs_fgt [3, 4] (qs_for [3, 4] hp rfl (qi_s (qe_fn (Gsuspects.mono (by decide)) hr (by rfl) tk (qa_cons (qv 1) (qa_cons (qe_len (by rfl) T.len (qa_cons (qv 0) qa_nil)) qa_nil)))) (qg_nm nd rfl (by first | exact Or.inl rfl | exact Or.inr rfl))
    (qb_cons (qs_set nd rfl (by first | exact Or.inl rfl | exact Or.inr rfl) (qe_fn (Gmended.mono (by decide)) hr (by rfl) tk (qa_cons (qv 2) (qa_cons (qv 3) qa_nil))))
    (qb_one (qs_if (qt_notN (qv 4)) (qb_one (qs_ret (qe_fn (Gaddress_in.mono (by decide)) hr (by rfl) tk (qa_cons (qv 4) qa_nil)))) qb_nil)))))
    (qb_one (qs_ret qe_non))))))
noncomputable abbrev sread_mark : Stmt := topS 24
theorem cread_mark : FnScope ["text", "fives", "bar", "k"] ["text"] (defScope sread_mark) := ⟨rfl, rfl, rfl, by decide +kernel, rfl, by decide +kernel, by decide +kernel⟩
noncomputable def bread_mark : Stm := (sSeq (sIf (tNotD (eTr (eCall (boolsD fun bs => bs.all id) [(eAno (nLc [2] (.nm 2) (iTx (eVar 0)) tYesD (e2 (inTD false) (eVar 2) (eTup [(eC (.str "l")), (eC (.str "s")), (eC (.str "?"))]))))]))) sBad sNext)
    (sSeq (sSet 1 (e2 fdivD (eCall lenD [(eVar 0)]) (eC (.int 5))))
    (sSeq (sIf (tOrD (eTB (e2 (eqD true) (e2 modD (eCall lenD [(eVar 0)]) (eC (.int 5))) (eC (.int 0)))) (tNotD (eTB (eCh leD leD (eC (.int 5)) (eVar 1) (eC (.int 30)))))) (sRet (eC .non)) sNext)
    (sRet (eFn Fread_fives [(eAno (nLc [3] (.nm 3) (iR1 (eVar 1)) tYesD (eFn Fsymbol_in [(eSl (eVar 0) (pE (e2 mulD (eVar 3) (eC (.int 5)))) (pE (e2 mulD (e2 addD (eVar 3) (eC (.int 1))) (eC (.int 5)))))])))])))))
noncomputable def Fread_mark : List D → Sto → Res D := runD .frz 4 bread_mark
theorem kread_mark (T : Bt K mg) (I : DefIn K mg "read_mark" sread_mark ["text"]) (Gread_fives : DefOk P w K mg base cl "read_fives" 5 ["symbols"] Fread_fives) (Gsymbol_in : DefOk P w K mg base cl "symbol_in" 1 ["five"] Fsymbol_in) : DefOk P w K mg base cl "read_mark" 6 ["text"] Fread_mark := by
  refine def_ok (k := 5) I cread_mark fun f cdv A outer s H E hr => ?_
  have nd := cread_mark.nd
  have tk : L2N.Takes (cxOf (L2N.CX P w) P w K mg base ["text", "fives", "bar", "k"] "read_mark" (defScope sread_mark) f cdv A outer s H E) (fun c d _ H => E c d H)   := L2N.takes_of rfl rfl rfl rfl
  have hp : PassesOwn (model P w) (cxOf (L2N.CX P w) P w K mg base ["text", "fives", "bar", "k"] "read_mark" (defScope sread_mark) f cdv A outer s H E).A (cxOf (L2N.CX P w) P w K mg base ["text", "fives", "bar", "k"] "read_mark" (defScope sread_mark) f cdv A outer s H E).env (cxOf (L2N.CX P w) P w K mg base ["text", "fives", "bar", "k"] "read_mark" (defScope sread_mark) f cdv A outer s H E).xe := passes_of rfl
  exact (qb_cons (qs_if (qt_not (qt_val (qe_all rfl (by rfl) T.all (qa_cons (qe_ano (qn_lc (own := [("bar", 2)]) rfl nd (qi_tx (qv 0)) (blkOk_by (by rfl)) (by decide) (fun _ _ _ _ _ => (qg_nm nd rfl (by first | exact Or.inl rfl | exact Or.inr rfl))) (fun _ _ _ _ _ => qts_nil) (fun _ _ _ _ _ => (qe_inT hr (qv 2) (qe_tup (qa_cons (qe_gStr (by rfl) T.g_LONG) (qa_cons (qe_gStr (by rfl) T.g_SHORT) (qa_cons (qe_gStr (by rfl) T.g_LOST) qa_nil)))))))) qa_nil)))) (qb_one qs_bad) qb_nil)
    (qb_cons (qs_set nd rfl (by first | exact Or.inl rfl | exact Or.inr rfl) (qe_fdiv (qe_len (by rfl) T.len (qa_cons (qv 0) qa_nil)) (qe_gInt (by rfl) T.g_BARS)))
    (qb_cons (qs_if (PW.pt (qw_or (qt_ne hr (qe_mod (qe_len (by rfl) T.len (qa_cons (qv 0) qa_nil)) (qe_gInt (by rfl) T.g_BARS)) qe_int) (qw_or1 (qt_not (qt_lele (qe_gInt (by rfl) T.g_LEAST_FIVES) (qv 1) (qe_gInt (by rfl) T.g_MOST_FIVES)))))) (qb_one (qs_ret qe_non)) qb_nil)
    (qb_one (qs_ret (qe_fn (Gread_fives.mono (by decide)) hr (by rfl) tk (qa_cons (qe_ano (qn_lc (own := [("k", 3)]) rfl nd (qi_r1 (by rfl) T.range (qv 1)) (blkOk_by (by rfl)) (by decide) (fun _ _ _ _ _ => (qg_nm nd rfl (by first | exact Or.inl rfl | exact Or.inr rfl))) (fun _ _ _ _ _ => qts_nil) (fun _ _ _ _ _ => (qe_fn (Gsymbol_in.mono (by decide)) hr (by rfl) takesN (qa_cons (qe_sl (qv 0) (qp_e (qe_mul (qv 3) (qe_gInt (by rfl) T.g_BARS))) (qp_e (qe_mul (qe_add (qv 3) qe_int) (qe_gInt (by rfl) T.g_BARS)))) qa_nil))))) qa_nil)))))))
noncomputable abbrev s_law_cell_at : Stmt := topS 26
theorem c_law_cell_at : FnScope ["_law_script", "_law_k"] ["_law_script", "_law_k"] (defScope s_law_cell_at) := ⟨rfl, rfl, rfl, by decide +kernel, rfl, by decide +kernel, by decide +kernel⟩
noncomputable def b_law_cell_at : Stm := (sSeq (sIf (eTB (e2 ltD (eVar 1) (eCall lenD [(eVar 0)]))) (sRet (e2 ixD (eVar 0) (eVar 1))) sNext)
    (sRet (eC (.int 0))))
noncomputable def F_law_cell_at : List D → Sto → Res D := runD .frz 2 b_law_cell_at
theorem k_law_cell_at (T : Bt K mg) (I : DefIn K mg "_law_cell_at" s_law_cell_at ["_law_script", "_law_k"])  : DefOk P w K mg base cl "_law_cell_at" 1 ["_law_script", "_law_k"] F_law_cell_at := by
  refine def_ok (k := 0) I c_law_cell_at fun f cdv A outer s H E hr => ?_
  have nd := c_law_cell_at.nd
  have tk : L2N.Takes (cxOf (L2N.CX P w) P w K mg base ["_law_script", "_law_k"] "_law_cell_at" (defScope s_law_cell_at) f cdv A outer s H E) (fun c d _ H => E c d H)   := L2N.takes_of rfl rfl rfl rfl
  have hp : PassesOwn (model P w) (cxOf (L2N.CX P w) P w K mg base ["_law_script", "_law_k"] "_law_cell_at" (defScope s_law_cell_at) f cdv A outer s H E).A (cxOf (L2N.CX P w) P w K mg base ["_law_script", "_law_k"] "_law_cell_at" (defScope s_law_cell_at) f cdv A outer s H E).env (cxOf (L2N.CX P w) P w K mg base ["_law_script", "_law_k"] "_law_cell_at" (defScope s_law_cell_at) f cdv A outer s H E).xe := passes_of rfl
  exact (qb_cons (qs_if (qt_lt (qv 1) (qe_len (by rfl) T.len (qa_cons (qv 0) qa_nil))) (qb_one (qs_ret (qe_ix hr (qv 0) (qv 1)))) qb_nil)
    (qb_one (qs_ret qe_int)))
noncomputable abbrev s_law_big : Stmt := topS 27
theorem c_law_big : FnScope ["_law_script", "_law_at", "_law_cell", "_law_primes", "_law_found", "_law_k", "_law_one"] ["_law_script", "_law_at"] (defScope s_law_big) := ⟨rfl, rfl, rfl, by decide +kernel, rfl, by decide +kernel, by decide +kernel⟩
noncomputable def b_law_big_1 : Stm := (sSeq (sSet 6 (e2 addD (e2 addD (e2 addD (e2 modD (eFn F_law_cell_at [(eVar 0), (e2 addD (eVar 1) (e2 modD (eVar 5) (eC (.int 7))))]) (e2 powD (eC (.int 10)) (eC (.int 18)))) (e2 mulD (eC (.int 11)) (eVar 5))) (e2 mulD (eC (.int 13)) (eVar 1))) (eC (.int 3))))
    (sSet 4 (e2 addD (e2 mulD (eVar 4) (eC (.int 8191))) (e2 modD (e2 mulD (e2 modD (e2 powD (e2 addD (e2 addD (e2 mulD (eVar 6) (eVar 6)) (e2 mulD (eC (.int 17)) (eVar 5))) (eC (.int 1))) (eC (.int 3))) (e2 ixD (eVar 3) (e2 modD (eVar 5) (eC (.int 7))))) (e2 addD (eVar 5) (eC (.int 5)))) (eC (.int 8191))))))
noncomputable def b_law_big : Stm := (sSeq (sSet 2 (eFn F_law_cell_at [(eVar 0), (eVar 1)]))
    (sSeq (sIf (eTB (e2 geD (eVar 2) (e2 powD (eC (.int 10)) (eC (.int 18))))) (sRet (eVar 2)) sNext)
    (sSeq (sSet 3 (eTup [(eC (.int 104729)), (eC (.int 104723)), (eC (.int 104717)), (eC (.int 104711)), (eC (.int 104707)), (eC (.int 104701)), (eC (.int 104693))]))
    (sSeq (sSet 4 (eC (.int 0)))
    (sSeq (sFgt [5, 6] (sFor [5, 6] (.nm 5) (iR1 (eC (.int 70))) b_law_big_1))
    (sRet (eVar 4)))))))
noncomputable def F_law_big : List D → Sto → Res D := runD .frz 7 b_law_big
theorem k_law_big (T : Bt K mg) (I : DefIn K mg "_law_big" s_law_big ["_law_script", "_law_at"]) (G_law_cell_at : DefOk P w K mg base cl "_law_cell_at" 1 ["_law_script", "_law_k"] F_law_cell_at) : DefOk P w K mg base cl "_law_big" 2 ["_law_script", "_law_at"] F_law_big := by
  refine def_ok (k := 1) I c_law_big fun f cdv A outer s H E hr => ?_
  have nd := c_law_big.nd
  have tk : L2N.Takes (cxOf (L2N.CX P w) P w K mg base ["_law_script", "_law_at", "_law_cell", "_law_primes", "_law_found", "_law_k", "_law_one"] "_law_big" (defScope s_law_big) f cdv A outer s H E) (fun c d _ H => E c d H)   := L2N.takes_of rfl rfl rfl rfl
  have hp : PassesOwn (model P w) (cxOf (L2N.CX P w) P w K mg base ["_law_script", "_law_at", "_law_cell", "_law_primes", "_law_found", "_law_k", "_law_one"] "_law_big" (defScope s_law_big) f cdv A outer s H E).A (cxOf (L2N.CX P w) P w K mg base ["_law_script", "_law_at", "_law_cell", "_law_primes", "_law_found", "_law_k", "_law_one"] "_law_big" (defScope s_law_big) f cdv A outer s H E).env (cxOf (L2N.CX P w) P w K mg base ["_law_script", "_law_at", "_law_cell", "_law_primes", "_law_found", "_law_k", "_law_one"] "_law_big" (defScope s_law_big) f cdv A outer s H E).xe := passes_of rfl
  exact (qb_cons (qs_set nd rfl (by first | exact Or.inl rfl | exact Or.inr rfl) (qe_fn (G_law_cell_at.mono (by decide)) hr (by rfl) tk (qa_cons (qv 0) (qa_cons (qv 1) qa_nil))))
    (qb_cons (qs_if (qt_ge (qv 2) (qe_pow qe_int qe_int)) (qb_one (qs_ret (qv 2))) qb_nil)
    (qb_cons (qs_set nd rfl (by first | exact Or.inl rfl | exact Or.inr rfl) (qe_tup (qa_cons qe_int (qa_cons qe_int (qa_cons qe_int (qa_cons qe_int (qa_cons qe_int (qa_cons qe_int (qa_cons qe_int qa_nil)))))))))
    (qb_cons (qs_set nd rfl (by first | exact Or.inl rfl | exact Or.inr rfl) qe_int)
    (qb_cons (qs_fgt [5, 6] (qs_for [5, 6] hp rfl (qi_r1 (by rfl) T.range qe_int) (qg_nm nd rfl (by first | exact Or.inl rfl | exact Or.inr rfl))
    (qb_cons (qs_set nd rfl (by first | exact Or.inl rfl | exact Or.inr rfl) (qe_add (qe_add (qe_add (qe_mod (qe_fn (G_law_cell_at.mono (by decide)) hr (by rfl) tk (qa_cons (qv 0) (qa_cons (qe_add (qv 1) (qe_mod (qv 5) qe_int)) qa_nil))) (qe_pow qe_int qe_int)) (qe_mul qe_int (qv 5))) (qe_mul qe_int (qv 1))) qe_int))
    (qb_one (qs_set nd rfl (by first | exact Or.inl rfl | exact Or.inr rfl) (qe_add (qe_mul (qv 4) qe_int) (qe_mod (qe_mul (qe_mod (qe_pow (qe_add (qe_add (qe_mul (qv 6) (qv 6)) (qe_mul qe_int (qv 5))) qe_int) qe_int) (qe_ix hr (qv 3) (qe_mod (qv 5) qe_int))) (qe_add (qv 5) qe_int)) qe_int)))))))
    (qb_one (qs_ret (qv 4))))))))
noncomputable abbrev s_law_digit : Stmt := topS 28
theorem c_law_digit : FnScope ["_law_rest", "_law_many", "_law_found"] ["_law_rest", "_law_many"] (defScope s_law_digit) := ⟨rfl, rfl, rfl, by decide +kernel, rfl, by decide +kernel, by decide +kernel⟩
noncomputable def b_law_digit : Stm := (sSeq (sSet 2 (e2 modD (e2 ixD (eVar 0) (eC (.int 0))) (eVar 1)))
    (sSeq (sSt (e2 fdivD (e2 ixD (eVar 0) (eC (.int 0))) (eVar 1)) (eVar 0) (eC (.int 0)))
    (sRet (eVar 2))))
noncomputable def F_law_digit : List D → Sto → Res D := runD .frz 3 b_law_digit
theorem k_law_digit (T : Bt K mg) (I : DefIn K mg "_law_digit" s_law_digit ["_law_rest", "_law_many"])  : DefOk P w K mg base cl "_law_digit" 1 ["_law_rest", "_law_many"] F_law_digit := by
  refine def_ok (k := 0) I c_law_digit fun f cdv A outer s H E hr => ?_
  have nd := c_law_digit.nd
  have tk : L2N.Takes (cxOf (L2N.CX P w) P w K mg base ["_law_rest", "_law_many", "_law_found"] "_law_digit" (defScope s_law_digit) f cdv A outer s H E) (fun c d _ H => E c d H)   := L2N.takes_of rfl rfl rfl rfl
  have hp : PassesOwn (model P w) (cxOf (L2N.CX P w) P w K mg base ["_law_rest", "_law_many", "_law_found"] "_law_digit" (defScope s_law_digit) f cdv A outer s H E).A (cxOf (L2N.CX P w) P w K mg base ["_law_rest", "_law_many", "_law_found"] "_law_digit" (defScope s_law_digit) f cdv A outer s H E).env (cxOf (L2N.CX P w) P w K mg base ["_law_rest", "_law_many", "_law_found"] "_law_digit" (defScope s_law_digit) f cdv A outer s H E).xe := passes_of rfl
  exact (qb_cons (qs_set nd rfl (by first | exact Or.inl rfl | exact Or.inr rfl) (qe_mod (qe_ix hr (qv 0) qe_int) (qv 1)))
    (qb_cons (qs_st hr (qe_fdiv (qe_ix hr (qv 0) qe_int) (qv 1)) (qv 0) qe_int)
    (qb_one (qs_ret (qv 2)))))
noncomputable abbrev s_law_address : Stmt := topS 29
theorem c_law_address : FnScope ["_law_rest", "_law_digits", "_law_number", "_law_k", "_law_low"] ["_law_rest", "_law_digits"] (defScope s_law_address) := ⟨rfl, rfl, rfl, by decide +kernel, rfl, by decide +kernel, by decide +kernel⟩
noncomputable def b_law_address_1 : Stm := (sSeq (sSet 4 (eCall int1D [(e2 (eqD false) (eVar 3) (eC (.int 0)))]))
    (sSet 2 (e2 addD (e2 addD (e2 mulD (eVar 2) (eC (.int 31))) (eVar 4)) (eFn F_law_digit [(eVar 0), (e2 subD (eC (.int 31)) (eVar 4))]))))
noncomputable def b_law_address : Stm := (sSeq (sSet 2 (eC (.int 0)))
    (sSeq (sFgt [3, 4] (sFor [3, 4] (.nm 3) (iR1 (eVar 1)) b_law_address_1))
    (sRet (eTup [(eFn F_law_digit [(eVar 0), (eC (.int 31))]), (eVar 2)]))))
noncomputable def F_law_address : List D → Sto → Res D := runD .frz 5 b_law_address
theorem k_law_address (T : Bt K mg) (I : DefIn K mg "_law_address" s_law_address ["_law_rest", "_law_digits"]) (G_law_digit : DefOk P w K mg base cl "_law_digit" 1 ["_law_rest", "_law_many"] F_law_digit) : DefOk P w K mg base cl "_law_address" 2 ["_law_rest", "_law_digits"] F_law_address := by
  refine def_ok (k := 1) I c_law_address fun f cdv A outer s H E hr => ?_
  have nd := c_law_address.nd
  have tk : L2N.Takes (cxOf (L2N.CX P w) P w K mg base ["_law_rest", "_law_digits", "_law_number", "_law_k", "_law_low"] "_law_address" (defScope s_law_address) f cdv A outer s H E) (fun c d _ H => E c d H)   := L2N.takes_of rfl rfl rfl rfl
  have hp : PassesOwn (model P w) (cxOf (L2N.CX P w) P w K mg base ["_law_rest", "_law_digits", "_law_number", "_law_k", "_law_low"] "_law_address" (defScope s_law_address) f cdv A outer s H E).A (cxOf (L2N.CX P w) P w K mg base ["_law_rest", "_law_digits", "_law_number", "_law_k", "_law_low"] "_law_address" (defScope s_law_address) f cdv A outer s H E).env (cxOf (L2N.CX P w) P w K mg base ["_law_rest", "_law_digits", "_law_number", "_law_k", "_law_low"] "_law_address" (defScope s_law_address) f cdv A outer s H E).xe := passes_of rfl
  exact (qb_cons (qs_set nd rfl (by first | exact Or.inl rfl | exact Or.inr rfl) qe_int)
    (qb_cons (qs_fgt [3, 4] (qs_for [3, 4] hp rfl (qi_r1 (by rfl) T.range (qv 1)) (qg_nm nd rfl (by first | exact Or.inl rfl | exact Or.inr rfl))
    (qb_cons (qs_set nd rfl (by first | exact Or.inl rfl | exact Or.inr rfl) (qe_intOf (by rfl) T.int (qa_cons (qe_eq hr (qv 3) qe_int) qa_nil)))
    (qb_one (qs_set nd rfl (by first | exact Or.inl rfl | exact Or.inr rfl) (qe_add (qe_add (qe_mul (qv 2) qe_int) (qv 4)) (qe_fn (G_law_digit.mono (by decide)) hr (by rfl) tk (qa_cons (qv 0) (qa_cons (qe_sub qe_int (qv 4)) qa_nil)))))))))
    (qb_one (qs_ret (qe_tup (qa_cons (qe_fn (G_law_digit.mono (by decide)) hr (by rfl) tk (qa_cons (qv 0) (qa_cons qe_int qa_nil))) (qa_cons (qv 2) qa_nil)))))))
noncomputable abbrev s_law_bars : Stmt := topS 31
theorem c_law_bars : FnScope ["_law_symbol", "_law_found", "_law_bit"] ["_law_symbol"] (defScope s_law_bars) := ⟨rfl, rfl, rfl, by decide +kernel, rfl, by decide +kernel, by decide +kernel⟩
noncomputable def b_law_bars_1 : Stm := (sSet 1 (e2 addD (eVar 1) (e2 ixD (eC (.str "sl")) (e2 modD (e2 fdivD (eVar 0) (eVar 2)) (eC (.int 2))))))
noncomputable def b_law_bars : Stm := (sSeq (sSet 1 (eC (.str "")))
    (sSeq (sFgt [2] (sFor [2] (.nm 2) (iS (eTup [(eC (.int 16)), (eC (.int 8)), (eC (.int 4)), (eC (.int 2)), (eC (.int 1))])) b_law_bars_1))
    (sRet (eVar 1))))
noncomputable def F_law_bars : List D → Sto → Res D := runD .frz 3 b_law_bars
theorem k_law_bars (T : Bt K mg) (I : DefIn K mg "_law_bars" s_law_bars ["_law_symbol"])  : DefOk P w K mg base cl "_law_bars" 1 ["_law_symbol"] F_law_bars := by
  refine def_ok (k := 0) I c_law_bars fun f cdv A outer s H E hr => ?_
  have nd := c_law_bars.nd
  have tk : L2N.Takes (cxOf (L2N.CX P w) P w K mg base ["_law_symbol", "_law_found", "_law_bit"] "_law_bars" (defScope s_law_bars) f cdv A outer s H E) (fun c d _ H => E c d H)   := L2N.takes_of rfl rfl rfl rfl
  have hp : PassesOwn (model P w) (cxOf (L2N.CX P w) P w K mg base ["_law_symbol", "_law_found", "_law_bit"] "_law_bars" (defScope s_law_bars) f cdv A outer s H E).A (cxOf (L2N.CX P w) P w K mg base ["_law_symbol", "_law_found", "_law_bit"] "_law_bars" (defScope s_law_bars) f cdv A outer s H E).env (cxOf (L2N.CX P w) P w K mg base ["_law_symbol", "_law_found", "_law_bit"] "_law_bars" (defScope s_law_bars) f cdv A outer s H E).xe := passes_of rfl
  exact (qb_cons (qs_set nd rfl (by first | exact Or.inl rfl | exact Or.inr rfl) qe_str)
    (qb_cons (qs_fgt [2] (qs_for [2] hp rfl (qi_s (qe_tup (qa_cons qe_int (qa_cons qe_int (qa_cons qe_int (qa_cons qe_int (qa_cons qe_int qa_nil))))))) (qg_nm nd rfl (by first | exact Or.inl rfl | exact Or.inr rfl))
    (qb_one (qs_set nd rfl (by first | exact Or.inl rfl | exact Or.inr rfl) (qe_add (qv 1) (qe_ix hr qe_str (qe_mod (qe_fdiv (qv 0) (qv 2)) qe_int)))))))
    (qb_one (qs_ret (qv 1)))))
noncomputable abbrev s_law_symbols : Stmt := topS 32
theorem c_law_symbols : FnScope ["_law_address_here", "_law_street", "_law_number", "_law_some", "_law_n", "_law_plain", "_law_once", "_law_twice", "_law_first", "_law_second", "_law_third", "_law_line", "_law_bent_here", "_law_k"] ["_law_address_here"] (defScope s_law_symbols) := ⟨rfl, rfl, rfl, by decide +kernel, rfl, by decide +kernel, by decide +kernel⟩
noncomputable def b_law_symbols_1 : Stm := (sSeq (sExpr (eM "list" appD (eVar 3) [(e2 modD (eVar 2) (eC (.int 31)))]))
    (sSet 2 (e2 fdivD (eVar 2) (eC (.int 31)))))
noncomputable def b_law_symbols_2 : Stm := (sSeq (sSet 10 (e2 modD (e2 subD (e2 subD (e2 subD (eC (.int 0)) (eVar 5)) (eVar 8)) (eVar 9)) (eC (.int 31))))
    (sSeq (sSet 11 (e2 addD (e2 addD (eVar 6) (e2 mulD (eVar 8) (e2 addD (eVar 4) (eC (.int 1))))) (e2 mulD (eVar 9) (e2 addD (eVar 4) (eC (.int 2))))))
    (sSeq (sSet 11 (e2 addD (eVar 11) (e2 mulD (eVar 10) (e2 addD (eVar 4) (eC (.int 3))))))
    (sSeq (sSet 12 (e2 addD (eVar 7) (e2 mulD (e2 mulD (eVar 8) (e2 addD (eVar 4) (eC (.int 1)))) (e2 addD (eVar 4) (eC (.int 1))))))
    (sSeq (sSet 12 (e2 addD (eVar 12) (e2 mulD (e2 mulD (eVar 9) (e2 addD (eVar 4) (eC (.int 2)))) (e2 addD (eVar 4) (eC (.int 2))))))
    (sSeq (sSet 12 (e2 addD (eVar 12) (e2 mulD (e2 mulD (eVar 10) (e2 addD (eVar 4) (eC (.int 3)))) (e2 addD (eVar 4) (eC (.int 3))))))
    (sIf (tAndD (eTB (e2 (eqD false) (e2 modD (eVar 11) (eC (.int 31))) (eC (.int 0)))) (eTB (e2 (eqD false) (e2 modD (eVar 12) (eC (.int 31))) (eC (.int 0))))) (sRet (e2 addD (eVar 3) (eAno (nLst [(eVar 8), (eVar 9), (eVar 10)])))) sNext)))))))
noncomputable def b_law_symbols_3 : Stm := (sFgt [9, 10, 11, 12] (sFor [9, 10, 11, 12] (.nm 9) (iR1 (eC (.int 31))) b_law_symbols_2))
noncomputable def b_law_symbols : Stm := (sSeq (sAsg (.tp [(.nm 1), (.nm 2)]) (eVar 0))
    (sSeq (sSet 3 (eNew (nLst [(eVar 1)])))
    (sSeq (sFgt [2] (whileD [] (eTB (e2 gtD (eVar 2) (eC (.int 0)))) b_law_symbols_1))
    (sSeq (sSet 4 (eCall lenD [(eVar 3)]))
    (sSeq (sSet 5 (eCall (intsD fun ns => .int ns.sum) [(eVar 3)]))
    (sSeq (sSet 6 (eCall (intsD fun ns => .int ns.sum) [(eAno (nLc [13] (.nm 13) (iR1 (eVar 4)) tYesD (e2 mulD (e2 ixD (eVar 3) (eVar 13)) (e2 addD (eVar 13) (eC (.int 1))))))]))
    (sSeq (sSet 7 (eCall (intsD fun ns => .int ns.sum) [(eAno (nLc [13] (.nm 13) (iR1 (eVar 4)) tYesD (e2 mulD (e2 mulD (e2 ixD (eVar 3) (eVar 13)) (e2 addD (eVar 13) (eC (.int 1)))) (e2 addD (eVar 13) (eC (.int 1))))))]))
    (sSeq (sFgt [8, 9, 10, 11, 12] (sFor [8, 9, 10, 11, 12] (.nm 8) (iR1 (eC (.int 31))) b_law_symbols_3))
    (sRet (eVar 3))))))))))
noncomputable def F_law_symbols : List D → Sto → Res D := runD .frz 14 b_law_symbols
theorem k_law_symbols (T : Bt K mg) (I : DefIn K mg "_law_symbols" s_law_symbols ["_law_address_here"])  : DefOk P w K mg base cl "_law_symbols" 1 ["_law_address_here"] F_law_symbols := by
  refine def_ok (k := 0) I c_law_symbols fun f cdv A outer s H E hr => ?_
  have nd := c_law_symbols.nd
  have tk : L2N.Takes (cxOf (L2N.CX P w) P w K mg base ["_law_address_here", "_law_street", "_law_number", "_law_some", "_law_n", "_law_plain", "_law_once", "_law_twice", "_law_first", "_law_second", "_law_third", "_law_line", "_law_bent_here", "_law_k"] "_law_symbols" (defScope s_law_symbols) f cdv A outer s H E) (fun c d _ H => E c d H)   := L2N.takes_of rfl rfl rfl rfl
  have hp : PassesOwn (model P w) (cxOf (L2N.CX P w) P w K mg base ["_law_address_here", "_law_street", "_law_number", "_law_some", "_law_n", "_law_plain", "_law_once", "_law_twice", "_law_first", "_law_second", "_law_third", "_law_line", "_law_bent_here", "_law_k"] "_law_symbols" (defScope s_law_symbols) f cdv A outer s H E).A (cxOf (L2N.CX P w) P w K mg base ["_law_address_here", "_law_street", "_law_number", "_law_some", "_law_n", "_law_plain", "_law_once", "_law_twice", "_law_first", "_law_second", "_law_third", "_law_line", "_law_bent_here", "_law_k"] "_law_symbols" (defScope s_law_symbols) f cdv A outer s H E).env (cxOf (L2N.CX P w) P w K mg base ["_law_address_here", "_law_street", "_law_number", "_law_some", "_law_n", "_law_plain", "_law_once", "_law_twice", "_law_first", "_law_second", "_law_third", "_law_line", "_law_bent_here", "_law_k"] "_law_symbols" (defScope s_law_symbols) f cdv A outer s H E).xe := passes_of rfl
  exact (qb_cons (qs_asg (qv 0) (qg_tp rfl (qgs_cons (qg_nm nd rfl (by first | exact Or.inl rfl | exact Or.inr rfl)) (qgs_cons (qg_nm nd rfl (by first | exact Or.inl rfl | exact Or.inr rfl)) qgs_nil)) rfl))
    (qb_cons (qs_set nd rfl (by first | exact Or.inl rfl | exact Or.inr rfl) (qe_new (qn_lst (qa_cons (qv 1) qa_nil))))
    (qb_cons (qs_fgt [2] (qs_while [] hp (qt_gt (qv 2) qe_int)
    (qb_cons (qs_expr (qe_append (qv 3) (qe_mod (qv 2) qe_int)))
    (qb_one (qs_set nd rfl (by first | exact Or.inl rfl | exact Or.inr rfl) (qe_fdiv (qv 2) qe_int))))))
    (qb_cons (qs_set nd rfl (by first | exact Or.inl rfl | exact Or.inr rfl) (qe_len (by rfl) T.len (qa_cons (qv 3) qa_nil)))
    (qb_cons (qs_set nd rfl (by first | exact Or.inl rfl | exact Or.inr rfl) (qe_sum rfl (by rfl) T.sum (qa_cons (qv 3) qa_nil)))
    (qb_cons (qs_set nd rfl (by first | exact Or.inl rfl | exact Or.inr rfl) (qe_sum rfl (by rfl) T.sum (qa_cons (qe_ano (qn_lc (own := [("_law_k", 13)]) rfl nd (qi_r1 (by rfl) T.range (qv 4)) (blkOk_by (by rfl)) (by decide) (fun _ _ _ _ _ => (qg_nm nd rfl (by first | exact Or.inl rfl | exact Or.inr rfl))) (fun _ _ _ _ _ => qts_nil) (fun _ _ _ _ _ => (qe_mul (qe_ix hr (qv 3) (qv 13)) (qe_add (qv 13) qe_int))))) qa_nil)))
    (qb_cons (qs_set nd rfl (by first | exact Or.inl rfl | exact Or.inr rfl) (qe_sum rfl (by rfl) T.sum (qa_cons (qe_ano (qn_lc (own := [("_law_k", 13)]) rfl nd (qi_r1 (by rfl) T.range (qv 4)) (blkOk_by (by rfl)) (by decide) (fun _ _ _ _ _ => (qg_nm nd rfl (by first | exact Or.inl rfl | exact Or.inr rfl))) (fun _ _ _ _ _ => qts_nil) (fun _ _ _ _ _ => (qe_mul (qe_mul (qe_ix hr (qv 3) (qv 13)) (qe_add (qv 13) qe_int)) (qe_add (qv 13) qe_int))))) qa_nil)))
    (qb_cons (qs_fgt [8, 9, 10, 11, 12] (qs_for [8, 9, 10, 11, 12] hp rfl (qi_r1 (by rfl) T.range qe_int) (qg_nm nd rfl (by first | exact Or.inl rfl | exact Or.inr rfl))
    (qb_one (qs_fgt [9, 10, 11, 12] (qs_for [9, 10, 11, 12] hp rfl (qi_r1 (by rfl) T.range qe_int) (qg_nm nd rfl (by first | exact Or.inl rfl | exact Or.inr rfl))
    (qb_cons (qs_set nd rfl (by first | exact Or.inl rfl | exact Or.inr rfl) (qe_mod (qe_sub (qe_sub (qe_sub qe_int (qv 5)) (qv 8)) (qv 9)) qe_int))
    (qb_cons (qs_set nd rfl (by first | exact Or.inl rfl | exact Or.inr rfl) (qe_add (qe_add (qv 6) (qe_mul (qv 8) (qe_add (qv 4) qe_int))) (qe_mul (qv 9) (qe_add (qv 4) qe_int))))
    (qb_cons (qs_set nd rfl (by first | exact Or.inl rfl | exact Or.inr rfl) (qe_add (qv 11) (qe_mul (qv 10) (qe_add (qv 4) qe_int))))
    (qb_cons (qs_set nd rfl (by first | exact Or.inl rfl | exact Or.inr rfl) (qe_add (qv 7) (qe_mul (qe_mul (qv 8) (qe_add (qv 4) qe_int)) (qe_add (qv 4) qe_int))))
    (qb_cons (qs_set nd rfl (by first | exact Or.inl rfl | exact Or.inr rfl) (qe_add (qv 12) (qe_mul (qe_mul (qv 9) (qe_add (qv 4) qe_int)) (qe_add (qv 4) qe_int))))
    (qb_cons (qs_set nd rfl (by first | exact Or.inl rfl | exact Or.inr rfl) (qe_add (qv 12) (qe_mul (qe_mul (qv 10) (qe_add (qv 4) qe_int)) (qe_add (qv 4) qe_int))))
    (qb_one (qs_if (PW.pt (qw_and (qt_eq hr (qe_mod (qv 11) qe_int) qe_int) (qw_and1 (qt_eq hr (qe_mod (qv 12) qe_int) qe_int)))) (qb_one (qs_ret (qe_add (qv 3) (qe_ano (qn_lst (qa_cons (qv 8) (qa_cons (qv 9) (qa_cons (qv 10) qa_nil)))))))) qb_nil)))))))))))))
    (qb_one (qs_ret (qv 3)))))))))))
noncomputable abbrev s_law_places : Stmt := topS 33
theorem c_law_places : FnScope ["_law_rest", "_law_many", "_law_often", "_law_free", "_law_k"] ["_law_rest", "_law_many", "_law_often"] (defScope s_law_places) := ⟨rfl, rfl, rfl, by decide +kernel, rfl, by decide +kernel, by decide +kernel⟩
noncomputable def b_law_places : Stm := (sSeq (sSet 3 (eNew (nRg1 (eVar 1))))
    (sRet (eAno (nLc [4] (.nm 4) (iR1 (eVar 2)) tYesD (eM "list" popD (eVar 3) [(eFn F_law_digit [(eVar 0), (eCall lenD [(eVar 3)])])])))))
noncomputable def F_law_places : List D → Sto → Res D := runD .frz 5 b_law_places
theorem k_law_places (T : Bt K mg) (I : DefIn K mg "_law_places" s_law_places ["_law_rest", "_law_many", "_law_often"]) (G_law_digit : DefOk P w K mg base cl "_law_digit" 1 ["_law_rest", "_law_many"] F_law_digit) : DefOk P w K mg base cl "_law_places" 2 ["_law_rest", "_law_many", "_law_often"] F_law_places := by
  refine def_ok (k := 1) I c_law_places fun f cdv A outer s H E hr => ?_
  have nd := c_law_places.nd
  have tk : L2N.Takes (cxOf (L2N.CX P w) P w K mg base ["_law_rest", "_law_many", "_law_often", "_law_free", "_law_k"] "_law_places" (defScope s_law_places) f cdv A outer s H E) (fun c d _ H => E c d H)   := L2N.takes_of rfl rfl rfl rfl
  have hp : PassesOwn (model P w) (cxOf (L2N.CX P w) P w K mg base ["_law_rest", "_law_many", "_law_often", "_law_free", "_law_k"] "_law_places" (defScope s_law_places) f cdv A outer s H E).A (cxOf (L2N.CX P w) P w K mg base ["_law_rest", "_law_many", "_law_often", "_law_free", "_law_k"] "_law_places" (defScope s_law_places) f cdv A outer s H E).env (cxOf (L2N.CX P w) P w K mg base ["_law_rest", "_law_many", "_law_often", "_law_free", "_law_k"] "_law_places" (defScope s_law_places) f cdv A outer s H E).xe := passes_of rfl
  exact (qb_cons (qs_set nd rfl (by first | exact Or.inl rfl | exact Or.inr rfl) (qe_new (qn_rg1 rfl (by rfl) T.list (by rfl) T.range (qv 1))))
    (qb_one (qs_ret (qe_ano (qn_lc (own := [("_law_k", 4)]) rfl nd (qi_r1 (by rfl) T.range (qv 2)) (blkOk_by (by rfl)) (by decide) (fun _ _ _ _ _ => (qg_nm nd rfl (by first | exact Or.inl rfl | exact Or.inr rfl))) (fun _ _ _ _ _ => qts_nil) (fun _ _ _ _ _ => (qe_pop1 (qv 3) (qe_fn (G_law_digit.mono (by decide)) hr (by rfl) takesN (qa_cons (qv 0) (qa_cons (qe_len (by rfl) T.len (qa_cons (qv 3) qa_nil)) qa_nil))))))))))
noncomputable abbrev s_law_value : Stmt := topS 34
theorem c_law_value : FnScope ["_law_five", "_law_found", "_law_bar"] ["_law_five"] (defScope s_law_value) := ⟨rfl, rfl, rfl, by decide +kernel, rfl, by decide +kernel, by decide +kernel⟩
noncomputable def b_law_value_1 : Stm := (sSet 1 (e2 addD (e2 mulD (eC (.int 2)) (eVar 1)) (eCall int1D [(e2 (eqD false) (eVar 2) (eC (.str "l")))])))
noncomputable def b_law_value : Stm := (sSeq (sSet 1 (eC (.int 0)))
    (sSeq (sFgt [2] (sFor [2] (.nm 2) (iTx (eVar 0)) b_law_value_1))
    (sRet (eVar 1))))
noncomputable def F_law_value : List D → Sto → Res D := runD .frz 3 b_law_value
theorem k_law_value (T : Bt K mg) (I : DefIn K mg "_law_value" s_law_value ["_law_five"])  : DefOk P w K mg base cl "_law_value" 1 ["_law_five"] F_law_value := by
  refine def_ok (k := 0) I c_law_value fun f cdv A outer s H E hr => ?_
  have nd := c_law_value.nd
  have tk : L2N.Takes (cxOf (L2N.CX P w) P w K mg base ["_law_five", "_law_found", "_law_bar"] "_law_value" (defScope s_law_value) f cdv A outer s H E) (fun c d _ H => E c d H)   := L2N.takes_of rfl rfl rfl rfl
  have hp : PassesOwn (model P w) (cxOf (L2N.CX P w) P w K mg base ["_law_five", "_law_found", "_law_bar"] "_law_value" (defScope s_law_value) f cdv A outer s H E).A (cxOf (L2N.CX P w) P w K mg base ["_law_five", "_law_found", "_law_bar"] "_law_value" (defScope s_law_value) f cdv A outer s H E).env (cxOf (L2N.CX P w) P w K mg base ["_law_five", "_law_found", "_law_bar"] "_law_value" (defScope s_law_value) f cdv A outer s H E).xe := passes_of rfl
  exact (qb_cons (qs_set nd rfl (by first | exact Or.inl rfl | exact Or.inr rfl) qe_int)
    (qb_cons (qs_fgt [2] (qs_for [2] hp rfl (qi_tx (qv 0)) (qg_nm nd rfl (by first | exact Or.inl rfl | exact Or.inr rfl))
    (qb_one (qs_set nd rfl (by first | exact Or.inl rfl | exact Or.inr rfl) (qe_add (qe_mul qe_int (qv 1)) (qe_intOf (by rfl) T.int (qa_cons (qe_eq hr (qv 2) qe_str) qa_nil)))))))
    (qb_one (qs_ret (qv 1)))))
noncomputable abbrev s_law_bent : Stmt := topS 35
theorem c_law_bent : FnScope ["_law_rest", "_law_fives", "_law_wrong", "_law_unclear", "_law_made", "_law_places_here", "_law_place", "_law_lost", "_law_k"] ["_law_rest", "_law_fives", "_law_wrong", "_law_unclear"] (defScope s_law_bent) := ⟨rfl, rfl, rfl, by decide +kernel, rfl, by decide +kernel, by decide +kernel⟩
noncomputable def b_law_bent_1 : Stm := (sSt (eFn F_law_bars [(e2 modD (e2 addD (e2 addD (eFn F_law_value [(e2 ixD (eVar 4) (eVar 6))]) (eC (.int 1))) (eFn F_law_digit [(eVar 0), (eC (.int 30))])) (eC (.int 31)))]) (eVar 4) (eVar 6))
noncomputable def b_law_bent_2 : Stm := (sSeq (sSet 7 (eFn F_law_digit [(eVar 0), (eC (.int 32))]))
    (sIf (eTB (e2 (eqD false) (eVar 7) (eC (.int 0)))) (sSt (eC (.str "lllll")) (eVar 4) (eVar 6)) (sSt (eM "str" joinD (eC (.str "")) [(eAno (nLc [8] (.nm 8) (iR1 (eC (.int 5))) tYesD (eIf (eTB (e2 (eqD false) (e2 bitAndD (e2 shrD (eVar 7) (eVar 8)) (eC (.int 1))) (eC (.int 1)))) (eC (.str "?")) (e2 ixD (e2 ixD (eVar 4) (eVar 6)) (eVar 8)))))]) (eVar 4) (eVar 6))))
noncomputable def b_law_bent : Stm := (sSeq (sSet 4 (eNew (nListOf (eVar 1))))
    (sSeq (sSet 5 (eFn F_law_places [(eVar 0), (eCall lenD [(eVar 1)]), (e2 addD (eVar 2) (eVar 3))]))
    (sSeq (sFgt [6] (sFor [6] (.nm 6) (iS (eSl (eVar 5) pN (pE (eVar 2)))) b_law_bent_1))
    (sSeq (sFgt [6, 7] (sFor [6, 7] (.nm 6) (iS (eSl (eVar 5) (pE (eVar 2)) pN)) b_law_bent_2))
    (sRet (eVar 4))))))
noncomputable def F_law_bent : List D → Sto → Res D := runD .frz 9 b_law_bent
theorem k_law_bent (T : Bt K mg) (I : DefIn K mg "_law_bent" s_law_bent ["_law_rest", "_law_fives", "_law_wrong", "_law_unclear"]) (G_law_places : DefOk P w K mg base cl "_law_places" 2 ["_law_rest", "_law_many", "_law_often"] F_law_places) (G_law_bars : DefOk P w K mg base cl "_law_bars" 1 ["_law_symbol"] F_law_bars) (G_law_digit : DefOk P w K mg base cl "_law_digit" 1 ["_law_rest", "_law_many"] F_law_digit) (G_law_value : DefOk P w K mg base cl "_law_value" 1 ["_law_five"] F_law_value) : DefOk P w K mg base cl "_law_bent" 3 ["_law_rest", "_law_fives", "_law_wrong", "_law_unclear"] F_law_bent := by
  refine def_ok (k := 2) I c_law_bent fun f cdv A outer s H E hr => ?_
  have nd := c_law_bent.nd
  have tk : L2N.Takes (cxOf (L2N.CX P w) P w K mg base ["_law_rest", "_law_fives", "_law_wrong", "_law_unclear", "_law_made", "_law_places_here", "_law_place", "_law_lost", "_law_k"] "_law_bent" (defScope s_law_bent) f cdv A outer s H E) (fun c d _ H => E c d H)   := L2N.takes_of rfl rfl rfl rfl
  have hp : PassesOwn (model P w) (cxOf (L2N.CX P w) P w K mg base ["_law_rest", "_law_fives", "_law_wrong", "_law_unclear", "_law_made", "_law_places_here", "_law_place", "_law_lost", "_law_k"] "_law_bent" (defScope s_law_bent) f cdv A outer s H E).A (cxOf (L2N.CX P w) P w K mg base ["_law_rest", "_law_fives", "_law_wrong", "_law_unclear", "_law_made", "_law_places_here", "_law_place", "_law_lost", "_law_k"] "_law_bent" (defScope s_law_bent) f cdv A outer s H E).env (cxOf (L2N.CX P w) P w K mg base ["_law_rest", "_law_fives", "_law_wrong", "_law_unclear", "_law_made", "_law_places_here", "_law_place", "_law_lost", "_law_k"] "_law_bent" (defScope s_law_bent) f cdv A outer s H E).xe := passes_of rfl
  exact (qb_cons (qs_set nd rfl (by first | exact Or.inl rfl | exact Or.inr rfl) (qe_new (qn_list (by rfl) T.list (qv 1))))
    (qb_cons (qs_set nd rfl (by first | exact Or.inl rfl | exact Or.inr rfl) (qe_fn (G_law_places.mono (by decide)) hr (by rfl) tk (qa_cons (qv 0) (qa_cons (qe_len (by rfl) T.len (qa_cons (qv 1) qa_nil)) (qa_cons (qe_add (qv 2) (qv 3)) qa_nil)))))
    (qb_cons (qs_fgt [6] (qs_for [6] hp rfl (qi_s (qe_sl (qv 5) qp_n (qp_e (qv 2)))) (qg_nm nd rfl (by first | exact Or.inl rfl | exact Or.inr rfl))
    (qb_one (qs_st hr (qe_fn (G_law_bars.mono (by decide)) hr (by rfl) tk (qa_cons (qe_mod (qe_add (qe_add (qe_fn (G_law_value.mono (by decide)) hr (by rfl) tk (qa_cons (qe_ix hr (qv 4) (qv 6)) qa_nil)) qe_int) (qe_fn (G_law_digit.mono (by decide)) hr (by rfl) tk (qa_cons (qv 0) (qa_cons qe_int qa_nil)))) qe_int) qa_nil)) (qv 4) (qv 6)))))
    (qb_cons (qs_fgt [6, 7] (qs_for [6, 7] hp rfl (qi_s (qe_sl (qv 5) (qp_e (qv 2)) qp_n)) (qg_nm nd rfl (by first | exact Or.inl rfl | exact Or.inr rfl))
    (qb_cons (qs_set nd rfl (by first | exact Or.inl rfl | exact Or.inr rfl) (qe_fn (G_law_digit.mono (by decide)) hr (by rfl) tk (qa_cons (qv 0) (qa_cons qe_int qa_nil))))
    (qb_one (qs_if (qt_eq hr (qv 7) qe_int) (qb_one (qs_st hr qe_str (qv 4) (qv 6))) (qb_one (qs_st hr (qe_join qe_str (qe_ano (qn_lc (own := [("_law_k", 8)]) rfl nd (qi_r1 (by rfl) T.range qe_int) (blkOk_by (by rfl)) (by decide) (fun _ _ _ _ _ => (qg_nm nd rfl (by first | exact Or.inl rfl | exact Or.inr rfl))) (fun _ _ _ _ _ => qts_nil) (fun _ _ _ _ _ => (qe_if (qt_eq hr (qe_band (qe_shr (qv 7) (qv 8)) qe_int) qe_int) qe_str (qe_ix hr (qe_ix hr (qv 4) (qv 6)) (qv 8))))))) (qv 4) (qv 6))))))))
    (qb_one (qs_ret (qv 4)))))))
noncomputable abbrev s_law_sums : Stmt := topS 37
theorem c_law_sums : FnScope ["_law_some", "_law_once", "_law_twice", "_law_k"] ["_law_some"] (defScope s_law_sums) := ⟨rfl, rfl, rfl, by decide +kernel, rfl, by decide +kernel, by decide +kernel⟩
noncomputable def b_law_sums : Stm := (sSeq (sSet 1 (eCall (intsD fun ns => .int ns.sum) [(eAno (nLc [3] (.nm 3) (iR1 (eCall lenD [(eVar 0)])) tYesD (e2 mulD (e2 ixD (eVar 0) (eVar 3)) (e2 addD (eVar 3) (eC (.int 1))))))]))
    (sSeq (sSet 2 (eCall (intsD fun ns => .int ns.sum) [(eAno (nLc [3] (.nm 3) (iR1 (eCall lenD [(eVar 0)])) tYesD (e2 mulD (e2 mulD (e2 ixD (eVar 0) (eVar 3)) (e2 addD (eVar 3) (eC (.int 1)))) (e2 addD (eVar 3) (eC (.int 1))))))]))
    (sRet (eTup [(e2 modD (eCall smB [(eVar 0)]) (eC (.int 31))), (e2 modD (eVar 1) (eC (.int 31))), (e2 modD (eVar 2) (eC (.int 31)))]))))
noncomputable def F_law_sums : List D → Sto → Res D := runD .frz 4 b_law_sums
theorem k_law_sums (T : Bt K mg) (I : DefIn K mg "_law_sums" s_law_sums ["_law_some"])  : DefOk P w K mg base cl "_law_sums" 1 ["_law_some"] F_law_sums := by
  refine def_ok (k := 0) I c_law_sums fun f cdv A outer s H E hr => ?_
  have nd := c_law_sums.nd
  have tk : L2N.Takes (cxOf (L2N.CX P w) P w K mg base ["_law_some", "_law_once", "_law_twice", "_law_k"] "_law_sums" (defScope s_law_sums) f cdv A outer s H E) (fun c d _ H => E c d H)   := L2N.takes_of rfl rfl rfl rfl
  have hp : PassesOwn (model P w) (cxOf (L2N.CX P w) P w K mg base ["_law_some", "_law_once", "_law_twice", "_law_k"] "_law_sums" (defScope s_law_sums) f cdv A outer s H E).A (cxOf (L2N.CX P w) P w K mg base ["_law_some", "_law_once", "_law_twice", "_law_k"] "_law_sums" (defScope s_law_sums) f cdv A outer s H E).env (cxOf (L2N.CX P w) P w K mg base ["_law_some", "_law_once", "_law_twice", "_law_k"] "_law_sums" (defScope s_law_sums) f cdv A outer s H E).xe := passes_of rfl
  exact (qb_cons (qs_set nd rfl (by first | exact Or.inl rfl | exact Or.inr rfl) (qe_sum rfl (by rfl) T.sum (qa_cons (qe_ano (qn_lc (own := [("_law_k", 3)]) rfl nd (qi_r1 (by rfl) T.range (qe_len (by rfl) T.len (qa_cons (qv 0) qa_nil))) (blkOk_by (by rfl)) (by decide) (fun _ _ _ _ _ => (qg_nm nd rfl (by first | exact Or.inl rfl | exact Or.inr rfl))) (fun _ _ _ _ _ => qts_nil) (fun _ _ _ _ _ => (qe_mul (qe_ix hr (qv 0) (qv 3)) (qe_add (qv 3) qe_int))))) qa_nil)))
    (qb_cons (qs_set nd rfl (by first | exact Or.inl rfl | exact Or.inr rfl) (qe_sum rfl (by rfl) T.sum (qa_cons (qe_ano (qn_lc (own := [("_law_k", 3)]) rfl nd (qi_r1 (by rfl) T.range (qe_len (by rfl) T.len (qa_cons (qv 0) qa_nil))) (blkOk_by (by rfl)) (by decide) (fun _ _ _ _ _ => (qg_nm nd rfl (by first | exact Or.inl rfl | exact Or.inr rfl))) (fun _ _ _ _ _ => qts_nil) (fun _ _ _ _ _ => (qe_mul (qe_mul (qe_ix hr (qv 0) (qv 3)) (qe_add (qv 3) qe_int)) (qe_add (qv 3) qe_int))))) qa_nil)))
    (qb_one (qs_ret (qe_tup (qa_cons (qe_mod (qe_sumB rfl (by rfl) T.sum (qa_cons (qv 0) qa_nil)) qe_int) (qa_cons (qe_mod (qv 1) qe_int) (qa_cons (qe_mod (qv 2) qe_int) qa_nil))))))))
noncomputable abbrev s_law_filled : Stmt := topS 36
theorem c_law_filled : FnScope ["_law_some", "_law_places_here", "_law_ways", "_law_place", "_law_longer", "_law_one", "_law_found", "_law_way", "_law_made"] ["_law_some", "_law_places_here"] (defScope s_law_filled) := ⟨rfl, rfl, rfl, by decide +kernel, rfl, by decide +kernel, by decide +kernel⟩
noncomputable def b_law_filled_1 : Stm := (sSet 4 (e2 addD (eVar 4) (eAno (nLc [7] (.nm 7) (iS (eVar 2)) tYesD (e2 addD (eVar 7) (eAno (nLst [(eVar 5)])))))))
noncomputable def b_law_filled_2 : Stm := (sSeq (sSet 4 (eAno (nLst [])))
    (sSeq (sFgt [5] (sFor [5] (.nm 5) (iR1 (eC (.int 31))) b_law_filled_1))
    (sSet 2 (eVar 4))))
noncomputable def b_law_filled_3 : Stm := (sSt (eVar 5) (eVar 8) (eVar 3))
noncomputable def b_law_filled_4 : Stm := (sSeq (sSet 8 (eNew (nListOf (eVar 0))))
    (sSeq (sFgt [3, 5] (sFor [3, 5] (.tp [(.nm 3), (.nm 5)]) (iZp (eSl (eVar 1) (pE (eC (.int 1))) pN) (eVar 7)) b_law_filled_3))
    (sSeq (sIf (eTB (e2 (eqD true) (eVar 1) (eAno (nLst [])))) (sSeq (sSt (eC (.int 0)) (eVar 8) (e2 ixD (eVar 1) (eC (.int 0))))
    (sSt (e2 modD (e2 subD (eC (.int 0)) (eCall (intsD fun ns => .int ns.sum) [(eVar 8)])) (eC (.int 31))) (eVar 8) (e2 ixD (eVar 1) (eC (.int 0))))) sNext)
    (sExpr (eM "list" appD (eVar 6) [(eVar 8)])))))
noncomputable def b_law_filled : Stm := (sSeq (sSet 2 (eAno (nLst [(eAno (nLst []))])))
    (sSeq (sFgt [3, 4, 5] (sFor [3, 4, 5] (.nm 3) (iS (eSl (eVar 1) (pE (eC (.int 1))) pN)) b_law_filled_2))
    (sSeq (sSet 6 (eNew (nLst [])))
    (sSeq (sFgt [3, 5, 7] (sFor [3, 5, 7] (.nm 7) (iS (eVar 2)) (sCutB b_law_filled_4)))
    (sRet (eAno (nLc [8] (.nm 8) (iS (eVar 6)) (eTB (e2 (eqD false) (eFn F_law_sums [(eVar 8)]) (eTup [(eC (.int 0)), (eC (.int 0)), (eC (.int 0))]))) (eVar 8))))))))
noncomputable def F_law_filled : List D → Sto → Res D := runD .frz 9 b_law_filled
theorem k_law_filled (T : Bt K mg) (I : DefIn K mg "_law_filled" s_law_filled ["_law_some", "_law_places_here"]) (G_law_sums : DefOk P w K mg base cl "_law_sums" 1 ["_law_some"] F_law_sums) : DefOk P w K mg base cl "_law_filled" 2 ["_law_some", "_law_places_here"] F_law_filled := by
  refine def_ok (k := 1) I c_law_filled fun f cdv A outer s H E hr => ?_
  have nd := c_law_filled.nd
  have tk : L2N.Takes (cxOf (L2N.CX P w) P w K mg base ["_law_some", "_law_places_here", "_law_ways", "_law_place", "_law_longer", "_law_one", "_law_found", "_law_way", "_law_made"] "_law_filled" (defScope s_law_filled) f cdv A outer s H E) (fun c d _ H => E c d H)   := L2N.takes_of rfl rfl rfl rfl
  have hp : PassesOwn (model P w) (cxOf (L2N.CX P w) P w K mg base ["_law_some", "_law_places_here", "_law_ways", "_law_place", "_law_longer", "_law_one", "_law_found", "_law_way", "_law_made"] "_law_filled" (defScope s_law_filled) f cdv A outer s H E).A (cxOf (L2N.CX P w) P w K mg base ["_law_some", "_law_places_here", "_law_ways", "_law_place", "_law_longer", "_law_one", "_law_found", "_law_way", "_law_made"] "_law_filled" (defScope s_law_filled) f cdv A outer s H E).env (cxOf (L2N.CX P w) P w K mg base ["_law_some", "_law_places_here", "_law_ways", "_law_place", "_law_longer", "_law_one", "_law_found", "_law_way", "_law_made"] "_law_filled" (defScope s_law_filled) f cdv A outer s H E).xe := passes_of rfl
  exact (qb_cons (qs_set nd rfl (by first | exact Or.inl rfl | exact Or.inr rfl) (qe_ano (qn_lst (qa_cons (qe_ano (qn_lst qa_nil)) qa_nil))))
    (qb_cons (qs_fgt [3, 4, 5] (qs_for [3, 4, 5] hp rfl (qi_s (qe_sl (qv 1) (qp_e qe_int) qp_n)) (qg_nm nd rfl (by first | exact Or.inl rfl | exact Or.inr rfl))
    (qb_cons (qs_set nd rfl (by first | exact Or.inl rfl | exact Or.inr rfl) (qe_ano (qn_lst qa_nil)))
    (qb_cons (qs_fgt [5] (qs_for [5] hp rfl (qi_r1 (by rfl) T.range qe_int) (qg_nm nd rfl (by first | exact Or.inl rfl | exact Or.inr rfl))
    (qb_one (qs_set nd rfl (by first | exact Or.inl rfl | exact Or.inr rfl) (qe_add (qv 4) (qe_ano (qn_lc (own := [("_law_way", 7)]) rfl nd (qi_s (qv 2)) (blkOk_by (by rfl)) (by decide) (fun _ _ _ _ _ => (qg_nm nd rfl (by first | exact Or.inl rfl | exact Or.inr rfl))) (fun _ _ _ _ _ => qts_nil) (fun _ _ _ _ _ => (qe_add (qv 7) (qe_ano (qn_lst (qa_cons (qv 5) qa_nil))))))))))))
    (qb_one (qs_set nd rfl (by first | exact Or.inl rfl | exact Or.inr rfl) (qv 4)))))))
    (qb_cons (qs_set nd rfl (by first | exact Or.inl rfl | exact Or.inr rfl) (qe_new (qn_lst qa_nil)))
    (qb_cons (qs_fgt [3, 5, 7] (qs_for [3, 5, 7] hp rfl (qi_s (qv 2)) (qg_nm nd rfl (by first | exact Or.inl rfl | exact Or.inr rfl))
    (qb_cutB (qb_cons (qs_set nd rfl (by first | exact Or.inl rfl | exact Or.inr rfl) (qe_new (qn_list (by rfl) T.list (qv 0))))
    (qb_cons (qs_fgt [3, 5] (qs_for [3, 5] hp rfl (qi_zip (by rfl) T.zip (qe_sl (qv 1) (qp_e qe_int) qp_n) (qv 7)) (qg_tp rfl (qgs_cons (qg_nm nd rfl (by first | exact Or.inl rfl | exact Or.inr rfl)) (qgs_cons (qg_nm nd rfl (by first | exact Or.inl rfl | exact Or.inr rfl)) qgs_nil)) rfl)
    (qb_one (qs_st hr (qv 5) (qv 8) (qv 3)))))
    (qb_cons (qs_if (qt_ne hr (qv 1) (qe_ano (qn_lst qa_nil))) (qb_cons (qs_st hr qe_int (qv 8) (qe_ix hr (qv 1) qe_int))
    (qb_one (qs_st hr (qe_mod (qe_sub qe_int (qe_sum rfl (by rfl) T.sum (qa_cons (qv 8) qa_nil))) qe_int) (qv 8) (qe_ix hr (qv 1) qe_int)))) qb_nil)
    (qb_one (qs_expr (qe_append (qv 6) (qv 8))))))))))
    (qb_one (qs_ret (qe_ano (qn_lc (own := [("_law_made", 8)]) rfl nd (qi_s (qv 6)) (blkOk_by (by rfl)) (by decide) (fun _ _ _ _ _ => (qg_nm nd rfl (by first | exact Or.inl rfl | exact Or.inr rfl))) (fun _ _ _ _ _ => (qts_one (qt_eq hr (qe_fn (G_law_sums.mono (by decide)) hr (by rfl) takesN (qa_cons (qv 8) qa_nil)) (qe_tup (qa_cons qe_int (qa_cons qe_int (qa_cons qe_int qa_nil))))))) (fun _ _ _ _ _ => (qv 8))))))))))
noncomputable abbrev s_law_read : Stmt := topS 38
theorem c_law_read : FnScope ["_law_fives", "_law_some", "_law_lost", "_law_lots", "_law_places_here", "_law_made", "_law_number", "_law_digit_here", "_law_five", "_law_k", "_law_one"] ["_law_fives"] (defScope s_law_read) := ⟨rfl, rfl, rfl, by decide +kernel, rfl, by decide +kernel, by decide +kernel⟩
noncomputable def b_law_read_1 : Stm := (sSet 6 (e2 addD (e2 mulD (eVar 6) (eC (.int 31))) (eVar 7)))
noncomputable def b_law_read_2 : Stm := (sFgt [6, 7] (sIf (eTB (e2 gtD (e2 ixD (eVar 5) (e1 negD (eC (.int 4)))) (eC (.int 0)))) (sSeq (sSet 6 (eC (.int 0)))
    (sSeq (sFgt [7] (sFor [7] (.nm 7) (iS (e1 pk3D (eVar 5))) b_law_read_1))
    (sRet (eTup [(e2 ixD (eVar 5) (eC (.int 0))), (eVar 6)])))) sNext))
noncomputable def b_law_read_3 : Stm := (sFgt [5, 6, 7] (sFor [5, 6, 7] (.nm 5) (iS (eFn F_law_filled [(eVar 1), (eVar 4)])) b_law_read_2))
noncomputable def b_law_read : Stm := (sSeq (sSet 1 (eAno (nLc [8] (.nm 8) (iS (eVar 0)) tYesD (eIf (eTB (e2 (inD false) (eC (.str "?")) (eVar 8))) (eC (.int 31)) (eFn F_law_value [(eVar 8)])))))
    (sSeq (sSet 2 (eAno (nLc [9] (.nm 9) (iR1 (eCall lenD [(eVar 1)])) (eTB (e2 (eqD false) (e2 ixD (eVar 1) (eVar 9)) (eC (.int 31)))) (eVar 9))))
    (sSeq (sIf (eTB (e2 gtD (eCall lenD [(eVar 2)]) (eC (.int 3)))) (sRet (eC .non)) sNext)
    (sSeq (sSet 1 (eAno (nLc [10] (.nm 10) (iS (eVar 1)) tYesD (e2 modD (eVar 10) (eC (.int 31))))))
    (sSeq (sSet 3 (eAno (nLst [(eVar 2)])))
    (sSeq (sIf (eTB (e2 ltD (eCall lenD [(eVar 2)]) (eC (.int 2)))) (sSet 3 (e2 addD (eVar 3) (eAno (nLc [9] (.nm 9) (iR1 (eCall lenD [(eVar 1)])) (eTB (e2 (inD true) (eVar 9) (eVar 2))) (e2 addD (eVar 2) (eAno (nLst [(eVar 9)]))))))) sNext)
    (sSeq (sFgt [4, 5, 6, 7] (sFor [4, 5, 6, 7] (.nm 4) (iS (eVar 3)) b_law_read_3))
    (sRet (eC .non)))))))))
noncomputable def F_law_read : List D → Sto → Res D := runD .frz 11 b_law_read
theorem k_law_read (T : Bt K mg) (I : DefIn K mg "_law_read" s_law_read ["_law_fives"]) (G_law_filled : DefOk P w K mg base cl "_law_filled" 2 ["_law_some", "_law_places_here"] F_law_filled) (G_law_value : DefOk P w K mg base cl "_law_value" 1 ["_law_five"] F_law_value) : DefOk P w K mg base cl "_law_read" 3 ["_law_fives"] F_law_read := by
  refine def_ok (k := 2) I c_law_read fun f cdv A outer s H E hr => ?_
  have nd := c_law_read.nd
  have tk : L2N.Takes (cxOf (L2N.CX P w) P w K mg base ["_law_fives", "_law_some", "_law_lost", "_law_lots", "_law_places_here", "_law_made", "_law_number", "_law_digit_here", "_law_five", "_law_k", "_law_one"] "_law_read" (defScope s_law_read) f cdv A outer s H E) (fun c d _ H => E c d H)   := L2N.takes_of rfl rfl rfl rfl
  have hp : PassesOwn (model P w) (cxOf (L2N.CX P w) P w K mg base ["_law_fives", "_law_some", "_law_lost", "_law_lots", "_law_places_here", "_law_made", "_law_number", "_law_digit_here", "_law_five", "_law_k", "_law_one"] "_law_read" (defScope s_law_read) f cdv A outer s H E).A (cxOf (L2N.CX P w) P w K mg base ["_law_fives", "_law_some", "_law_lost", "_law_lots", "_law_places_here", "_law_made", "_law_number", "_law_digit_here", "_law_five", "_law_k", "_law_one"] "_law_read" (defScope s_law_read) f cdv A outer s H E).env (cxOf (L2N.CX P w) P w K mg base ["_law_fives", "_law_some", "_law_lost", "_law_lots", "_law_places_here", "_law_made", "_law_number", "_law_digit_here", "_law_five", "_law_k", "_law_one"] "_law_read" (defScope s_law_read) f cdv A outer s H E).xe := passes_of rfl
  exact (qb_cons (qs_set nd rfl (by first | exact Or.inl rfl | exact Or.inr rfl) (qe_ano (qn_lc (own := [("_law_five", 8)]) rfl nd (qi_s (qv 0)) (blkOk_by (by rfl)) (by decide) (fun _ _ _ _ _ => (qg_nm nd rfl (by first | exact Or.inl rfl | exact Or.inr rfl))) (fun _ _ _ _ _ => qts_nil) (fun _ _ _ _ _ => (qe_if (qt_in hr qe_str (qv 8)) qe_int (qe_fn (G_law_value.mono (by decide)) hr (by rfl) takesN (qa_cons (qv 8) qa_nil)))))))
    (qb_cons (qs_set nd rfl (by first | exact Or.inl rfl | exact Or.inr rfl) (qe_ano (qn_lc (own := [("_law_k", 9)]) rfl nd (qi_r1 (by rfl) T.range (qe_len (by rfl) T.len (qa_cons (qv 1) qa_nil))) (blkOk_by (by rfl)) (by decide) (fun _ _ _ _ _ => (qg_nm nd rfl (by first | exact Or.inl rfl | exact Or.inr rfl))) (fun _ _ _ _ _ => (qts_one (qt_eq hr (qe_ix hr (qv 1) (qv 9)) qe_int))) (fun _ _ _ _ _ => (qv 9)))))
    (qb_cons (qs_if (qt_gt (qe_len (by rfl) T.len (qa_cons (qv 2) qa_nil)) qe_int) (qb_one (qs_ret qe_non)) qb_nil)
    (qb_cons (qs_set nd rfl (by first | exact Or.inl rfl | exact Or.inr rfl) (qe_ano (qn_lc (own := [("_law_one", 10)]) rfl nd (qi_s (qv 1)) (blkOk_by (by rfl)) (by decide) (fun _ _ _ _ _ => (qg_nm nd rfl (by first | exact Or.inl rfl | exact Or.inr rfl))) (fun _ _ _ _ _ => qts_nil) (fun _ _ _ _ _ => (qe_mod (qv 10) qe_int)))))
    (qb_cons (qs_set nd rfl (by first | exact Or.inl rfl | exact Or.inr rfl) (qe_ano (qn_lst (qa_cons (qv 2) qa_nil))))
    (qb_cons (qs_if (qt_lt (qe_len (by rfl) T.len (qa_cons (qv 2) qa_nil)) qe_int) (qb_one (qs_set nd rfl (by first | exact Or.inl rfl | exact Or.inr rfl) (qe_add (qv 3) (qe_ano (qn_lc (own := [("_law_k", 9)]) rfl nd (qi_r1 (by rfl) T.range (qe_len (by rfl) T.len (qa_cons (qv 1) qa_nil))) (blkOk_by (by rfl)) (by decide) (fun _ _ _ _ _ => (qg_nm nd rfl (by first | exact Or.inl rfl | exact Or.inr rfl))) (fun _ _ _ _ _ => (qts_one (qt_notIn hr (qv 9) (qv 2)))) (fun _ _ _ _ _ => (qe_add (qv 2) (qe_ano (qn_lst (qa_cons (qv 9) qa_nil)))))))))) qb_nil)
    (qb_cons (qs_fgt [4, 5, 6, 7] (qs_for [4, 5, 6, 7] hp rfl (qi_s (qv 3)) (qg_nm nd rfl (by first | exact Or.inl rfl | exact Or.inr rfl))
    (qb_one (qs_fgt [5, 6, 7] (qs_for [5, 6, 7] hp rfl (qi_s (qe_fn (G_law_filled.mono (by decide)) hr (by rfl) tk (qa_cons (qv 1) (qa_cons (qv 4) qa_nil)))) (qg_nm nd rfl (by first | exact Or.inl rfl | exact Or.inr rfl))
    (qb_one (qs_fgt [6, 7] (qs_if (qt_gt (qe_ix hr (qv 5) (qe_neg qe_int)) qe_int) (qb_cons (qs_set nd rfl (by first | exact Or.inl rfl | exact Or.inr rfl) qe_int)
    (qb_cons (qs_fgt [7] (qs_for [7] hp rfl (qi_s (qe_pick3 (qv 5))) (qg_nm nd rfl (by first | exact Or.inl rfl | exact Or.inr rfl))
    (qb_one (qs_set nd rfl (by first | exact Or.inl rfl | exact Or.inr rfl) (qe_add (qe_mul (qv 6) qe_int) (qv 7))))))
    (qb_one (qs_ret (qe_tup (qa_cons (qe_ix hr (qv 5) qe_int) (qa_cons (qv 6) qa_nil))))))) qb_nil))))))))
    (qb_one (qs_ret qe_non)))))))))
noncomputable abbrev s_law_text : Stmt := topS 39
theorem c_law_text : FnScope ["_law_rest", "_law_many", "_law_address_here", "_law_fives", "_law_wrong", "_law_j", "_law_k", "_law_symbol"] ["_law_rest"] (defScope s_law_text) := ⟨rfl, rfl, rfl, by decide +kernel, rfl, by decide +kernel, by decide +kernel⟩
noncomputable def b_law_text : Stm := (sSeq (sFgt [1] (sIf (eTB (e2 (eqD false) (eFn F_law_digit [(eVar 0), (eC (.int 3))]) (eC (.int 1)))) (sSeq (sSet 1 (e2 addD (eC (.int 5)) (eFn F_law_digit [(eVar 0), (eC (.int 4))])))
    (sRet (eAno (nLc [5] (.nm 5) (iR1 (eVar 1)) tYesD (eM "str" joinD (eC (.str "")) [(eAno (nLc [6] (.nm 6) (iR1 (eC (.int 5))) tYesD (e2 ixD (eC (.str "slslsl?slslsl")) (eFn F_law_digit [(eVar 0), (eC (.int 13))]))))]))))) sNext))
    (sSeq (sSet 2 (eFn F_law_address [(eVar 0), (e2 addD (eC (.int 1)) (eFn F_law_digit [(eVar 0), (e2 ixD (eTup [(eC (.int 8)), (eC (.int 8)), (eC (.int 8)), (eC (.int 26))]) (eFn F_law_digit [(eVar 0), (eC (.int 4))]))]))]))
    (sSeq (sSet 3 (eAno (nLc [7] (.nm 7) (iS (eFn F_law_symbols [(eVar 2)])) tYesD (eFn F_law_bars [(eVar 7)]))))
    (sSeq (sSet 4 (eFn F_law_digit [(eVar 0), (eC (.int 3))]))
    (sRet (eFn F_law_bent [(eVar 0), (eVar 3), (eVar 4), (eFn F_law_digit [(eVar 0), (e2 subD (eC (.int 5)) (eVar 4))])]))))))
noncomputable def F_law_text : List D → Sto → Res D := runD .frz 8 b_law_text
theorem k_law_text (T : Bt K mg) (I : DefIn K mg "_law_text" s_law_text ["_law_rest"]) (G_law_address : DefOk P w K mg base cl "_law_address" 2 ["_law_rest", "_law_digits"] F_law_address) (G_law_digit : DefOk P w K mg base cl "_law_digit" 1 ["_law_rest", "_law_many"] F_law_digit) (G_law_bent : DefOk P w K mg base cl "_law_bent" 3 ["_law_rest", "_law_fives", "_law_wrong", "_law_unclear"] F_law_bent) (G_law_bars : DefOk P w K mg base cl "_law_bars" 1 ["_law_symbol"] F_law_bars) (G_law_symbols : DefOk P w K mg base cl "_law_symbols" 1 ["_law_address_here"] F_law_symbols) : DefOk P w K mg base cl "_law_text" 4 ["_law_rest"] F_law_text := by
  refine def_ok (k := 3) I c_law_text fun f cdv A outer s H E hr => ?_
  have nd := c_law_text.nd
  have tk : L2N.Takes (cxOf (L2N.CX P w) P w K mg base ["_law_rest", "_law_many", "_law_address_here", "_law_fives", "_law_wrong", "_law_j", "_law_k", "_law_symbol"] "_law_text" (defScope s_law_text) f cdv A outer s H E) (fun c d _ H => E c d H)   := L2N.takes_of rfl rfl rfl rfl
  have hp : PassesOwn (model P w) (cxOf (L2N.CX P w) P w K mg base ["_law_rest", "_law_many", "_law_address_here", "_law_fives", "_law_wrong", "_law_j", "_law_k", "_law_symbol"] "_law_text" (defScope s_law_text) f cdv A outer s H E).A (cxOf (L2N.CX P w) P w K mg base ["_law_rest", "_law_many", "_law_address_here", "_law_fives", "_law_wrong", "_law_j", "_law_k", "_law_symbol"] "_law_text" (defScope s_law_text) f cdv A outer s H E).env (cxOf (L2N.CX P w) P w K mg base ["_law_rest", "_law_many", "_law_address_here", "_law_fives", "_law_wrong", "_law_j", "_law_k", "_law_symbol"] "_law_text" (defScope s_law_text) f cdv A outer s H E).xe := passes_of rfl
  exact (qb_cons (qs_fgt [1] (qs_if (qt_eq hr (qe_fn (G_law_digit.mono (by decide)) hr (by rfl) tk (qa_cons (qv 0) (qa_cons qe_int qa_nil))) qe_int) (qb_cons (qs_set nd rfl (by first | exact Or.inl rfl | exact Or.inr rfl) (qe_add qe_int (qe_fn (G_law_digit.mono (by decide)) hr (by rfl) tk (qa_cons (qv 0) (qa_cons qe_int qa_nil)))))
    (qb_one (qs_ret (qe_ano (qn_lc (own := [("_law_j", 5)]) rfl nd (qi_r1 (by rfl) T.range (qv 1)) (blkOk_by (by rfl)) (by decide) (fun _ _ _ _ _ => (qg_nm nd rfl (by first | exact Or.inl rfl | exact Or.inr rfl))) (fun _ _ _ _ _ => qts_nil) (fun _ _ _ _ _ => (qe_join qe_str (qe_ano (qn_lc (own := [("_law_k", 6)]) rfl nd (qi_r1 (by rfl) T.range qe_int) (blkOk_by (by rfl)) (by decide) (fun _ _ _ _ _ => (qg_nm nd rfl (by first | exact Or.inl rfl | exact Or.inr rfl))) (fun _ _ _ _ _ => qts_nil) (fun _ _ _ _ _ => (qe_ix hr qe_str (qe_fn (G_law_digit.mono (by decide)) hr (by rfl) takesN (qa_cons (qv 0) (qa_cons qe_int qa_nil)))))))))))))) qb_nil))
    (qb_cons (qs_set nd rfl (by first | exact Or.inl rfl | exact Or.inr rfl) (qe_fn (G_law_address.mono (by decide)) hr (by rfl) tk (qa_cons (qv 0) (qa_cons (qe_add qe_int (qe_fn (G_law_digit.mono (by decide)) hr (by rfl) tk (qa_cons (qv 0) (qa_cons (qe_ix hr (qe_tup (qa_cons qe_int (qa_cons qe_int (qa_cons qe_int (qa_cons qe_int qa_nil))))) (qe_fn (G_law_digit.mono (by decide)) hr (by rfl) tk (qa_cons (qv 0) (qa_cons qe_int qa_nil)))) qa_nil)))) qa_nil))))
    (qb_cons (qs_setLc (own := [("_law_symbol", 7)]) rfl nd rfl rfl (sw_true rfl rfl rfl (by decide +kernel)) (qi_s (qe_fn (G_law_symbols.mono (by decide)) hr (by rfl) tk (qa_cons (qv 2) qa_nil))) (blkOk_by (by rfl)) (by decide) (fun _ _ _ _ _ => (qg_nm nd rfl (by first | exact Or.inl rfl | exact Or.inr rfl))) (fun _ _ _ _ _ => qts_nil) (fun _ _ _ _ _ => (qe_fn (G_law_bars.mono (by decide)) hr (by rfl) takesN (qa_cons (qv 7) qa_nil))) imp_ano)
    (qb_cons (qs_set nd rfl (by first | exact Or.inl rfl | exact Or.inr rfl) (qe_fn (G_law_digit.mono (by decide)) hr (by rfl) tk (qa_cons (qv 0) (qa_cons qe_int qa_nil))))
    (qb_one (qs_ret (qe_fn (G_law_bent.mono (by decide)) hr (by rfl) tk (qa_cons (qv 0) (qa_cons (qv 3) (qa_cons (qv 4) (qa_cons (qe_fn (G_law_digit.mono (by decide)) hr (by rfl) tk (qa_cons (qv 0) (qa_cons (qe_sub qe_int (qv 4)) qa_nil))) qa_nil)))))))))))
noncomputable abbrev slaw : Stmt := topS 40
theorem claw : FnScope ["_law_script", "_law_k", "_law_fives"] ["_law_script"] (defScope slaw) := ⟨rfl, rfl, rfl, by decide +kernel, rfl, by decide +kernel, by decide +kernel⟩
noncomputable def blaw_1 : Stm := (sSeq (sSet 2 (eFn F_law_text [(eNew (nLst [(eFn F_law_big [(eVar 0), (eVar 1)])]))]))
    (sIf (eTB (e2 (eqD true) (eFn Fread_mark [(eM "str" joinD (eC (.str "")) [(eVar 2)])]) (eFn F_law_read [(eVar 2)]))) (sRet (eC (.bl false))) sNext))
noncomputable def blaw : Stm := (sSeq (sFgt [1, 2] (sFor [1, 2] (.nm 1) (iR1 (e2 addD (eC (.int 1)) (eCall (ii2D minI) [(eC (.int 2)), (eCall lenD [(eVar 0)])]))) blaw_1))
    (sRet (eC (.bl true))))
noncomputable def Flaw : List D → Sto → Res D := runD .frz 3 blaw
theorem klaw (T : Bt K mg) (I : DefIn K mg "law" slaw ["_law_script"]) (G_law_text : DefOk P w K mg base cl "_law_text" 4 ["_law_rest"] F_law_text) (Gread_mark : DefOk P w K mg base cl "read_mark" 6 ["text"] Fread_mark) (G_law_read : DefOk P w K mg base cl "_law_read" 3 ["_law_fives"] F_law_read) (G_law_big : DefOk P w K mg base cl "_law_big" 2 ["_law_script", "_law_at"] F_law_big) : DefOk P w K mg base cl "law" 7 ["_law_script"] Flaw := by
  refine def_ok (k := 6) I claw fun f cdv A outer s H E hr => ?_
  have nd := claw.nd
  have tk : L2N.Takes (cxOf (L2N.CX P w) P w K mg base ["_law_script", "_law_k", "_law_fives"] "law" (defScope slaw) f cdv A outer s H E) (fun c d _ H => E c d H)   := L2N.takes_of rfl rfl rfl rfl
  have hp : PassesOwn (model P w) (cxOf (L2N.CX P w) P w K mg base ["_law_script", "_law_k", "_law_fives"] "law" (defScope slaw) f cdv A outer s H E).A (cxOf (L2N.CX P w) P w K mg base ["_law_script", "_law_k", "_law_fives"] "law" (defScope slaw) f cdv A outer s H E).env (cxOf (L2N.CX P w) P w K mg base ["_law_script", "_law_k", "_law_fives"] "law" (defScope slaw) f cdv A outer s H E).xe := passes_of rfl
  exact (qb_cons (qs_fgt [1, 2] (qs_for [1, 2] hp rfl (qi_r1 (by rfl) T.range (qe_add qe_int (qe_min2 rfl (by rfl) T.min (qa_cons qe_int (qa_cons (qe_len (by rfl) T.len (qa_cons (qv 0) qa_nil)) qa_nil))))) (qg_nm nd rfl (by first | exact Or.inl rfl | exact Or.inr rfl))
    (qb_cons (qs_set nd rfl (by first | exact Or.inl rfl | exact Or.inr rfl) (qe_fn (G_law_text.mono (by decide)) hr (by rfl) tk (qa_cons (qe_new (qn_lst (qa_cons (qe_fn (G_law_big.mono (by decide)) hr (by rfl) tk (qa_cons (qv 0) (qa_cons (qv 1) qa_nil))) qa_nil))) qa_nil)))
    (qb_one (qs_if (qt_ne hr (qe_fn (Gread_mark.mono (by decide)) hr (by rfl) tk (qa_cons (qe_join qe_str (qv 2)) qa_nil)) (qe_fn (G_law_read.mono (by decide)) hr (by rfl) tk (qa_cons (qv 2) qa_nil))) (qb_one (qs_ret qe_bl)) qb_nil)))))
    (qb_one (qs_ret qe_bl)))
end
theorem all_ok {l : PySem.W.OpenLaw} {w : World} {K : PySem.W.Frag} {h : Heap} {mg : Str → Option Value} {cl : Str → Addr} {fa : Addr} (X : K.In h) (G : h.Ns mainGlobals mg) (hfa : mg "law" = some (.ref fa))
    {f0 : Addr} {od0 an0 : Option Addr} {sl0 : Array (Option Value)} {oc0 kV0 dc0 pm0 cd0 ct0 : Value}
    (a0 : PySem.W.nsIn K mainGlobals "number_of" = some (some (.ref f0))) (l0 : K.lookup f0 = some ⟨oc0, od0, .func (PySem.W.fnOf "number_of" "number_of" (defArgs snumber_of) (defBody snumber_of) (defScope snumber_of) .none kV0 dc0 pm0 an0 cd0 ct0), sl0⟩) (c0 : PySem.W.codeIn K cd0 "number_of" = true) (k0 : PySem.W.keepIn K (.ref f0) = true)
    {f1 : Addr} {od1 an1 : Option Addr} {sl1 : Array (Option Value)} {oc1 kV1 dc1 pm1 cd1 ct1 : Value}
    (a1 : PySem.W.nsIn K mainGlobals "sums_of" = some (some (.ref f1))) (l1 : K.lookup f1 = some ⟨oc1, od1, .func (PySem.W.fnOf "sums_of" "sums_of" (defArgs ssums_of) (defBody ssums_of) (defScope ssums_of) .none kV1 dc1 pm1 an1 cd1 ct1), sl1⟩) (c1 : PySem.W.codeIn K cd1 "sums_of" = true) (k1 : PySem.W.keepIn K (.ref f1) = true)
    {f2 : Addr} {od2 an2 : Option Addr} {sl2 : Array (Option Value)} {oc2 kV2 dc2 pm2 cd2 ct2 : Value}
    (a2 : PySem.W.nsIn K mainGlobals "inverse" = some (some (.ref f2))) (l2 : K.lookup f2 = some ⟨oc2, od2, .func (PySem.W.fnOf "inverse" "inverse" (defArgs sinverse) (defBody sinverse) (defScope sinverse) .none kV2 dc2 pm2 an2 cd2 ct2), sl2⟩) (c2 : PySem.W.codeIn K cd2 "inverse" = true) (k2 : PySem.W.keepIn K (.ref f2) = true)
    {f3 : Addr} {od3 an3 : Option Addr} {sl3 : Array (Option Value)} {oc3 kV3 dc3 pm3 cd3 ct3 : Value}
    (a3 : PySem.W.nsIn K mainGlobals "share_at" = some (some (.ref f3))) (l3 : K.lookup f3 = some ⟨oc3, od3, .func (PySem.W.fnOf "share_at" "share_at" (defArgs sshare_at) (defBody sshare_at) (defScope sshare_at) .none kV3 dc3 pm3 an3 cd3 ct3), sl3⟩) (c3 : PySem.W.codeIn K cd3 "share_at" = true) (k3 : PySem.W.keepIn K (.ref f3) = true)
    {f4 : Addr} {od4 an4 : Option Addr} {sl4 : Array (Option Value)} {oc4 kV4 dc4 pm4 cd4 ct4 : Value}
    (a4 : PySem.W.nsIn K mainGlobals "filled" = some (some (.ref f4))) (l4 : K.lookup f4 = some ⟨oc4, od4, .func (PySem.W.fnOf "filled" "filled" (defArgs sfilled) (defBody sfilled) (defScope sfilled) .none kV4 dc4 pm4 an4 cd4 ct4), sl4⟩) (c4 : PySem.W.codeIn K cd4 "filled" = true) (k4 : PySem.W.keepIn K (.ref f4) = true)
    {f5 : Addr} {od5 an5 : Option Addr} {sl5 : Array (Option Value)} {oc5 kV5 dc5 pm5 cd5 ct5 : Value}
    (a5 : PySem.W.nsIn K mainGlobals "symbol_in" = some (some (.ref f5))) (l5 : K.lookup f5 = some ⟨oc5, od5, .func (PySem.W.fnOf "symbol_in" "symbol_in" (defArgs ssymbol_in) (defBody ssymbol_in) (defScope ssymbol_in) .none kV5 dc5 pm5 an5 cd5 ct5), sl5⟩) (c5 : PySem.W.codeIn K cd5 "symbol_in" = true) (k5 : PySem.W.keepIn K (.ref f5) = true)
    {f6 : Addr} {od6 an6 : Option Addr} {sl6 : Array (Option Value)} {oc6 kV6 dc6 pm6 cd6 ct6 : Value}
    (a6 : PySem.W.nsIn K mainGlobals "three_places" = some (some (.ref f6))) (l6 : K.lookup f6 = some ⟨oc6, od6, .func (PySem.W.fnOf "three_places" "three_places" (defArgs sthree_places) (defBody sthree_places) (defScope sthree_places) .none kV6 dc6 pm6 an6 cd6 ct6), sl6⟩) (c6 : PySem.W.codeIn K cd6 "three_places" = true) (k6 : PySem.W.keepIn K (.ref f6) = true)
    {f7 : Addr} {od7 an7 : Option Addr} {sl7 : Array (Option Value)} {oc7 kV7 dc7 pm7 cd7 ct7 : Value}
    (a7 : PySem.W.nsIn K mainGlobals "mended" = some (some (.ref f7))) (l7 : K.lookup f7 = some ⟨oc7, od7, .func (PySem.W.fnOf "mended" "mended" (defArgs smended) (defBody smended) (defScope smended) .none kV7 dc7 pm7 an7 cd7 ct7), sl7⟩) (c7 : PySem.W.codeIn K cd7 "mended" = true) (k7 : PySem.W.keepIn K (.ref f7) = true)
    {f8 : Addr} {od8 an8 : Option Addr} {sl8 : Array (Option Value)} {oc8 kV8 dc8 pm8 cd8 ct8 : Value}
    (a8 : PySem.W.nsIn K mainGlobals "address_in" = some (some (.ref f8))) (l8 : K.lookup f8 = some ⟨oc8, od8, .func (PySem.W.fnOf "address_in" "address_in" (defArgs saddress_in) (defBody saddress_in) (defScope saddress_in) .none kV8 dc8 pm8 an8 cd8 ct8), sl8⟩) (c8 : PySem.W.codeIn K cd8 "address_in" = true) (k8 : PySem.W.keepIn K (.ref f8) = true)
    {f9 : Addr} {od9 an9 : Option Addr} {sl9 : Array (Option Value)} {oc9 kV9 dc9 pm9 cd9 ct9 : Value}
    (a9 : PySem.W.nsIn K mainGlobals "suspects" = some (some (.ref f9))) (l9 : K.lookup f9 = some ⟨oc9, od9, .func (PySem.W.fnOf "suspects" "suspects" (defArgs ssuspects) (defBody ssuspects) (defScope ssuspects) .none kV9 dc9 pm9 an9 cd9 ct9), sl9⟩) (c9 : PySem.W.codeIn K cd9 "suspects" = true) (k9 : PySem.W.keepIn K (.ref f9) = true)
    {f10 : Addr} {od10 an10 : Option Addr} {sl10 : Array (Option Value)} {oc10 kV10 dc10 pm10 cd10 ct10 : Value}
    (a10 : PySem.W.nsIn K mainGlobals "read_fives" = some (some (.ref f10))) (l10 : K.lookup f10 = some ⟨oc10, od10, .func (PySem.W.fnOf "read_fives" "read_fives" (defArgs sread_fives) (defBody sread_fives) (defScope sread_fives) .none kV10 dc10 pm10 an10 cd10 ct10), sl10⟩) (c10 : PySem.W.codeIn K cd10 "read_fives" = true) (k10 : PySem.W.keepIn K (.ref f10) = true)
    {f11 : Addr} {od11 an11 : Option Addr} {sl11 : Array (Option Value)} {oc11 kV11 dc11 pm11 cd11 ct11 : Value}
    (a11 : PySem.W.nsIn K mainGlobals "read_mark" = some (some (.ref f11))) (l11 : K.lookup f11 = some ⟨oc11, od11, .func (PySem.W.fnOf "read_mark" "read_mark" (defArgs sread_mark) (defBody sread_mark) (defScope sread_mark) .none kV11 dc11 pm11 an11 cd11 ct11), sl11⟩) (c11 : PySem.W.codeIn K cd11 "read_mark" = true) (k11 : PySem.W.keepIn K (.ref f11) = true)
    {f12 : Addr} {od12 an12 : Option Addr} {sl12 : Array (Option Value)} {oc12 kV12 dc12 pm12 cd12 ct12 : Value}
    (a12 : PySem.W.nsIn K mainGlobals "_law_cell_at" = some (some (.ref f12))) (l12 : K.lookup f12 = some ⟨oc12, od12, .func (PySem.W.fnOf "_law_cell_at" "_law_cell_at" (defArgs s_law_cell_at) (defBody s_law_cell_at) (defScope s_law_cell_at) .none kV12 dc12 pm12 an12 cd12 ct12), sl12⟩) (c12 : PySem.W.codeIn K cd12 "_law_cell_at" = true) (k12 : PySem.W.keepIn K (.ref f12) = true)
    {f13 : Addr} {od13 an13 : Option Addr} {sl13 : Array (Option Value)} {oc13 kV13 dc13 pm13 cd13 ct13 : Value}
    (a13 : PySem.W.nsIn K mainGlobals "_law_big" = some (some (.ref f13))) (l13 : K.lookup f13 = some ⟨oc13, od13, .func (PySem.W.fnOf "_law_big" "_law_big" (defArgs s_law_big) (defBody s_law_big) (defScope s_law_big) .none kV13 dc13 pm13 an13 cd13 ct13), sl13⟩) (c13 : PySem.W.codeIn K cd13 "_law_big" = true) (k13 : PySem.W.keepIn K (.ref f13) = true)
    {f14 : Addr} {od14 an14 : Option Addr} {sl14 : Array (Option Value)} {oc14 kV14 dc14 pm14 cd14 ct14 : Value}
    (a14 : PySem.W.nsIn K mainGlobals "_law_digit" = some (some (.ref f14))) (l14 : K.lookup f14 = some ⟨oc14, od14, .func (PySem.W.fnOf "_law_digit" "_law_digit" (defArgs s_law_digit) (defBody s_law_digit) (defScope s_law_digit) .none kV14 dc14 pm14 an14 cd14 ct14), sl14⟩) (c14 : PySem.W.codeIn K cd14 "_law_digit" = true) (k14 : PySem.W.keepIn K (.ref f14) = true)
    {f15 : Addr} {od15 an15 : Option Addr} {sl15 : Array (Option Value)} {oc15 kV15 dc15 pm15 cd15 ct15 : Value}
    (a15 : PySem.W.nsIn K mainGlobals "_law_address" = some (some (.ref f15))) (l15 : K.lookup f15 = some ⟨oc15, od15, .func (PySem.W.fnOf "_law_address" "_law_address" (defArgs s_law_address) (defBody s_law_address) (defScope s_law_address) .none kV15 dc15 pm15 an15 cd15 ct15), sl15⟩) (c15 : PySem.W.codeIn K cd15 "_law_address" = true) (k15 : PySem.W.keepIn K (.ref f15) = true)
    {f16 : Addr} {od16 an16 : Option Addr} {sl16 : Array (Option Value)} {oc16 kV16 dc16 pm16 cd16 ct16 : Value}
    (a16 : PySem.W.nsIn K mainGlobals "_law_bars" = some (some (.ref f16))) (l16 : K.lookup f16 = some ⟨oc16, od16, .func (PySem.W.fnOf "_law_bars" "_law_bars" (defArgs s_law_bars) (defBody s_law_bars) (defScope s_law_bars) .none kV16 dc16 pm16 an16 cd16 ct16), sl16⟩) (c16 : PySem.W.codeIn K cd16 "_law_bars" = true) (k16 : PySem.W.keepIn K (.ref f16) = true)
    {f17 : Addr} {od17 an17 : Option Addr} {sl17 : Array (Option Value)} {oc17 kV17 dc17 pm17 cd17 ct17 : Value}
    (a17 : PySem.W.nsIn K mainGlobals "_law_symbols" = some (some (.ref f17))) (l17 : K.lookup f17 = some ⟨oc17, od17, .func (PySem.W.fnOf "_law_symbols" "_law_symbols" (defArgs s_law_symbols) (defBody s_law_symbols) (defScope s_law_symbols) .none kV17 dc17 pm17 an17 cd17 ct17), sl17⟩) (c17 : PySem.W.codeIn K cd17 "_law_symbols" = true) (k17 : PySem.W.keepIn K (.ref f17) = true)
    {f18 : Addr} {od18 an18 : Option Addr} {sl18 : Array (Option Value)} {oc18 kV18 dc18 pm18 cd18 ct18 : Value}
    (a18 : PySem.W.nsIn K mainGlobals "_law_places" = some (some (.ref f18))) (l18 : K.lookup f18 = some ⟨oc18, od18, .func (PySem.W.fnOf "_law_places" "_law_places" (defArgs s_law_places) (defBody s_law_places) (defScope s_law_places) .none kV18 dc18 pm18 an18 cd18 ct18), sl18⟩) (c18 : PySem.W.codeIn K cd18 "_law_places" = true) (k18 : PySem.W.keepIn K (.ref f18) = true)
    {f19 : Addr} {od19 an19 : Option Addr} {sl19 : Array (Option Value)} {oc19 kV19 dc19 pm19 cd19 ct19 : Value}
    (a19 : PySem.W.nsIn K mainGlobals "_law_value" = some (some (.ref f19))) (l19 : K.lookup f19 = some ⟨oc19, od19, .func (PySem.W.fnOf "_law_value" "_law_value" (defArgs s_law_value) (defBody s_law_value) (defScope s_law_value) .none kV19 dc19 pm19 an19 cd19 ct19), sl19⟩) (c19 : PySem.W.codeIn K cd19 "_law_value" = true) (k19 : PySem.W.keepIn K (.ref f19) = true)
    {f20 : Addr} {od20 an20 : Option Addr} {sl20 : Array (Option Value)} {oc20 kV20 dc20 pm20 cd20 ct20 : Value}
    (a20 : PySem.W.nsIn K mainGlobals "_law_bent" = some (some (.ref f20))) (l20 : K.lookup f20 = some ⟨oc20, od20, .func (PySem.W.fnOf "_law_bent" "_law_bent" (defArgs s_law_bent) (defBody s_law_bent) (defScope s_law_bent) .none kV20 dc20 pm20 an20 cd20 ct20), sl20⟩) (c20 : PySem.W.codeIn K cd20 "_law_bent" = true) (k20 : PySem.W.keepIn K (.ref f20) = true)
    {f21 : Addr} {od21 an21 : Option Addr} {sl21 : Array (Option Value)} {oc21 kV21 dc21 pm21 cd21 ct21 : Value}
    (a21 : PySem.W.nsIn K mainGlobals "_law_sums" = some (some (.ref f21))) (l21 : K.lookup f21 = some ⟨oc21, od21, .func (PySem.W.fnOf "_law_sums" "_law_sums" (defArgs s_law_sums) (defBody s_law_sums) (defScope s_law_sums) .none kV21 dc21 pm21 an21 cd21 ct21), sl21⟩) (c21 : PySem.W.codeIn K cd21 "_law_sums" = true) (k21 : PySem.W.keepIn K (.ref f21) = true)
    {f22 : Addr} {od22 an22 : Option Addr} {sl22 : Array (Option Value)} {oc22 kV22 dc22 pm22 cd22 ct22 : Value}
    (a22 : PySem.W.nsIn K mainGlobals "_law_filled" = some (some (.ref f22))) (l22 : K.lookup f22 = some ⟨oc22, od22, .func (PySem.W.fnOf "_law_filled" "_law_filled" (defArgs s_law_filled) (defBody s_law_filled) (defScope s_law_filled) .none kV22 dc22 pm22 an22 cd22 ct22), sl22⟩) (c22 : PySem.W.codeIn K cd22 "_law_filled" = true) (k22 : PySem.W.keepIn K (.ref f22) = true)
    {f23 : Addr} {od23 an23 : Option Addr} {sl23 : Array (Option Value)} {oc23 kV23 dc23 pm23 cd23 ct23 : Value}
    (a23 : PySem.W.nsIn K mainGlobals "_law_read" = some (some (.ref f23))) (l23 : K.lookup f23 = some ⟨oc23, od23, .func (PySem.W.fnOf "_law_read" "_law_read" (defArgs s_law_read) (defBody s_law_read) (defScope s_law_read) .none kV23 dc23 pm23 an23 cd23 ct23), sl23⟩) (c23 : PySem.W.codeIn K cd23 "_law_read" = true) (k23 : PySem.W.keepIn K (.ref f23) = true)
    {f24 : Addr} {od24 an24 : Option Addr} {sl24 : Array (Option Value)} {oc24 kV24 dc24 pm24 cd24 ct24 : Value}
    (a24 : PySem.W.nsIn K mainGlobals "_law_text" = some (some (.ref f24))) (l24 : K.lookup f24 = some ⟨oc24, od24, .func (PySem.W.fnOf "_law_text" "_law_text" (defArgs s_law_text) (defBody s_law_text) (defScope s_law_text) .none kV24 dc24 pm24 an24 cd24 ct24), sl24⟩) (c24 : PySem.W.codeIn K cd24 "_law_text" = true) (k24 : PySem.W.keepIn K (.ref f24) = true)
    {f25 : Addr} {od25 an25 : Option Addr} {sl25 : Array (Option Value)} {oc25 kV25 dc25 pm25 cd25 ct25 : Value}
    (a25 : PySem.W.nsIn K mainGlobals "law" = some (some (.ref f25))) (l25 : K.lookup f25 = some ⟨oc25, od25, .func (PySem.W.fnOf "law" "law" (defArgs slaw) (defBody slaw) (defScope slaw) .none kV25 dc25 pm25 an25 cd25 ct25), sl25⟩) (c25 : PySem.W.codeIn K cd25 "law" = true) (k25 : PySem.W.keepIn K (.ref f25) = true)
    (z_all : PySem.W.nsIn K mainGlobals "all" = some none)
    (z_enumerate : PySem.W.nsIn K mainGlobals "enumerate" = some none)
    (z_int : PySem.W.nsIn K mainGlobals "int" = some none)
    (z_len : PySem.W.nsIn K mainGlobals "len" = some none)
    (z_list : PySem.W.nsIn K mainGlobals "list" = some none)
    (z_min : PySem.W.nsIn K mainGlobals "min" = some none)
    (z_range : PySem.W.nsIn K mainGlobals "range" = some none)
    (z_reversed : PySem.W.nsIn K mainGlobals "reversed" = some none)
    (z_sum : PySem.W.nsIn K mainGlobals "sum" = some none)
    (z_zip : PySem.W.nsIn K mainGlobals "zip" = some none)
    {t_BARS : Tok} (g_BARS : PySem.W.nsIn K mainGlobals "BARS" = some (some (.int 5 t_BARS)))
    {t_BASE : Tok} (g_BASE : PySem.W.nsIn K mainGlobals "BASE" = some (some (.int 31 t_BASE)))
    {t_LEAST_FIVES : Tok} (g_LEAST_FIVES : PySem.W.nsIn K mainGlobals "LEAST_FIVES" = some (some (.int 5 t_LEAST_FIVES)))
    {t_LONG : Tok} (g_LONG : PySem.W.nsIn K mainGlobals "LONG" = some (some (.str "l" t_LONG)))
    {t_LOST : Tok} (g_LOST : PySem.W.nsIn K mainGlobals "LOST" = some (some (.str "?" t_LOST)))
    {t_MOST_FIVES : Tok} (g_MOST_FIVES : PySem.W.nsIn K mainGlobals "MOST_FIVES" = some (some (.int 30 t_MOST_FIVES)))
    {t_MOST_UNCLEAR : Tok} (g_MOST_UNCLEAR : PySem.W.nsIn K mainGlobals "MOST_UNCLEAR" = some (some (.int 3 t_MOST_UNCLEAR)))
    {t_SHORT : Tok} (g_SHORT : PySem.W.nsIn K mainGlobals "SHORT" = some (some (.str "s" t_SHORT)))
    {t_SUMS : Tok} (g_SUMS : PySem.W.nsIn K mainGlobals "SUMS" = some (some (.int 3 t_SUMS)))
    : ∃ fd : FuncData, (∀ (s : Shared) (u : Value), BindsTo s fd ⟨[u], []⟩ [("_law_script", u)]) ∧ ∀ base : Heap, K.In base → base.Ns mainGlobals mg → FnOk l.prog w K mg base (L2N.CX l.prog w) 7 fa fd ["_law_script"] (SpD K cl 1 Flaw) := by
  have T : Bt K mg := ⟨PySem.W.mg_none_of X G z_all, PySem.W.mg_none_of X G z_enumerate, PySem.W.mg_none_of X G z_int, PySem.W.mg_none_of X G z_len, PySem.W.mg_none_of X G z_list, PySem.W.mg_none_of X G z_min, PySem.W.mg_none_of X G z_range, PySem.W.mg_none_of X G z_reversed, PySem.W.mg_none_of X G z_sum, PySem.W.mg_none_of X G z_zip, ⟨t_BARS, PySem.W.mg_of X G g_BARS⟩, ⟨t_BASE, PySem.W.mg_of X G g_BASE⟩, ⟨t_LEAST_FIVES, PySem.W.mg_of X G g_LEAST_FIVES⟩, ⟨t_LONG, PySem.W.mg_of X G g_LONG⟩, ⟨t_LOST, PySem.W.mg_of X G g_LOST⟩, ⟨t_MOST_FIVES, PySem.W.mg_of X G g_MOST_FIVES⟩, ⟨t_MOST_UNCLEAR, PySem.W.mg_of X G g_MOST_UNCLEAR⟩, ⟨t_SHORT, PySem.W.mg_of X G g_SHORT⟩, ⟨t_SUMS, PySem.W.mg_of X G g_SUMS⟩⟩
  have I0 : DefIn K mg "number_of" snumber_of ["digits"] := defIn_mk X G a0 l0 c0 k0 fun _ _ _ _ _ _ => us1 (fun _ => rfl)
  have I1 : DefIn K mg "sums_of" ssums_of ["symbols"] := defIn_mk X G a1 l1 c1 k1 fun _ _ _ _ _ _ => us1 (fun _ => rfl)
  have I2 : DefIn K mg "inverse" sinverse ["number"] := defIn_mk X G a2 l2 c2 k2 fun _ _ _ _ _ _ => us1 (fun _ => rfl)
  have I3 : DefIn K mg "share_at" sshare_at ["place", "one", "other", "sums"] := defIn_mk X G a3 l3 c3 k3 fun _ _ _ _ _ _ => us4 (fun _ _ _ _ => rfl)
  have I4 : DefIn K mg "filled" sfilled ["symbols", "places"] := defIn_mk X G a4 l4 c4 k4 fun _ _ _ _ _ _ => us2 (fun _ _ => rfl)
  have I5 : DefIn K mg "symbol_in" ssymbol_in ["five"] := defIn_mk X G a5 l5 c5 k5 fun _ _ _ _ _ _ => us1 (fun _ => rfl)
  have I6 : DefIn K mg "three_places" sthree_places ["free", "many"] := defIn_mk X G a6 l6 c6 k6 fun _ _ _ _ _ _ => us2 (fun _ _ => rfl)
  have I7 : DefIn K mg "mended" smended ["symbols", "free"] := defIn_mk X G a7 l7 c7 k7 fun _ _ _ _ _ _ => us2 (fun _ _ => rfl)
  have I8 : DefIn K mg "address_in" saddress_in ["symbols"] := defIn_mk X G a8 l8 c8 k8 fun _ _ _ _ _ _ => us1 (fun _ => rfl)
  have I9 : DefIn K mg "suspects" ssuspects ["lost", "many"] := defIn_mk X G a9 l9 c9 k9 fun _ _ _ _ _ _ => us2 (fun _ _ => rfl)
  have I10 : DefIn K mg "read_fives" sread_fives ["symbols"] := defIn_mk X G a10 l10 c10 k10 fun _ _ _ _ _ _ => us1 (fun _ => rfl)
  have I11 : DefIn K mg "read_mark" sread_mark ["text"] := defIn_mk X G a11 l11 c11 k11 fun _ _ _ _ _ _ => us1 (fun _ => rfl)
  have I12 : DefIn K mg "_law_cell_at" s_law_cell_at ["_law_script", "_law_k"] := defIn_mk X G a12 l12 c12 k12 fun _ _ _ _ _ _ => us2 (fun _ _ => rfl)
  have I13 : DefIn K mg "_law_big" s_law_big ["_law_script", "_law_at"] := defIn_mk X G a13 l13 c13 k13 fun _ _ _ _ _ _ => us2 (fun _ _ => rfl)
  have I14 : DefIn K mg "_law_digit" s_law_digit ["_law_rest", "_law_many"] := defIn_mk X G a14 l14 c14 k14 fun _ _ _ _ _ _ => us2 (fun _ _ => rfl)
  have I15 : DefIn K mg "_law_address" s_law_address ["_law_rest", "_law_digits"] := defIn_mk X G a15 l15 c15 k15 fun _ _ _ _ _ _ => us2 (fun _ _ => rfl)
  have I16 : DefIn K mg "_law_bars" s_law_bars ["_law_symbol"] := defIn_mk X G a16 l16 c16 k16 fun _ _ _ _ _ _ => us1 (fun _ => rfl)
  have I17 : DefIn K mg "_law_symbols" s_law_symbols ["_law_address_here"] := defIn_mk X G a17 l17 c17 k17 fun _ _ _ _ _ _ => us1 (fun _ => rfl)
  have I18 : DefIn K mg "_law_places" s_law_places ["_law_rest", "_law_many", "_law_often"] := defIn_mk X G a18 l18 c18 k18 fun _ _ _ _ _ _ => us3 (fun _ _ _ => rfl)
  have I19 : DefIn K mg "_law_value" s_law_value ["_law_five"] := defIn_mk X G a19 l19 c19 k19 fun _ _ _ _ _ _ => us1 (fun _ => rfl)
  have I20 : DefIn K mg "_law_bent" s_law_bent ["_law_rest", "_law_fives", "_law_wrong", "_law_unclear"] := defIn_mk X G a20 l20 c20 k20 fun _ _ _ _ _ _ => us4 (fun _ _ _ _ => rfl)
  have I21 : DefIn K mg "_law_sums" s_law_sums ["_law_some"] := defIn_mk X G a21 l21 c21 k21 fun _ _ _ _ _ _ => us1 (fun _ => rfl)
  have I22 : DefIn K mg "_law_filled" s_law_filled ["_law_some", "_law_places_here"] := defIn_mk X G a22 l22 c22 k22 fun _ _ _ _ _ _ => us2 (fun _ _ => rfl)
  have I23 : DefIn K mg "_law_read" s_law_read ["_law_fives"] := defIn_mk X G a23 l23 c23 k23 fun _ _ _ _ _ _ => us1 (fun _ => rfl)
  have I24 : DefIn K mg "_law_text" s_law_text ["_law_rest"] := defIn_mk X G a24 l24 c24 k24 fun _ _ _ _ _ _ => us1 (fun _ => rfl)
  have I25 : DefIn K mg "law" slaw ["_law_script"] := defIn_mk X G a25 l25 c25 k25 fun _ _ _ _ _ _ => us1 (fun _ => rfl)
  obtain ⟨fd, hb, hF⟩ := law_fn (P := l.prog) (w := w) (cl := cl) (k := 7) (F := Flaw) I25 hfa
  refine ⟨fd, fun s u => .of_eq (hb [u] rfl), fun base _ _ => hF base ?_⟩
  have Gnumber_of : DefOk l.prog w K mg base cl "number_of" 1 ["digits"] Fnumber_of := knumber_of T I0 
  have Gsums_of : DefOk l.prog w K mg base cl "sums_of" 1 ["symbols"] Fsums_of := ksums_of T I1 
  have Ginverse : DefOk l.prog w K mg base cl "inverse" 1 ["number"] Finverse := kinverse T I2 
  have Gshare_at : DefOk l.prog w K mg base cl "share_at" 2 ["place", "one", "other", "sums"] Fshare_at := kshare_at T I3 Ginverse
  have Gfilled : DefOk l.prog w K mg base cl "filled" 3 ["symbols", "places"] Ffilled := kfilled T I4 Gsums_of Gshare_at
  have Gsymbol_in : DefOk l.prog w K mg base cl "symbol_in" 1 ["five"] Fsymbol_in := ksymbol_in T I5 
  have Gthree_places : DefOk l.prog w K mg base cl "three_places" 1 ["free", "many"] Fthree_places := kthree_places T I6 
  have Gmended : DefOk l.prog w K mg base cl "mended" 4 ["symbols", "free"] Fmended := kmended T I7 Gthree_places Gfilled
  have Gaddress_in : DefOk l.prog w K mg base cl "address_in" 2 ["symbols"] Faddress_in := kaddress_in T I8 Gnumber_of
  have Gsuspects : DefOk l.prog w K mg base cl "suspects" 1 ["lost", "many"] Fsuspects := ksuspects T I9 
  have Gread_fives : DefOk l.prog w K mg base cl "read_fives" 5 ["symbols"] Fread_fives := kread_fives T I10 Gsuspects Gmended Gaddress_in
  have Gread_mark : DefOk l.prog w K mg base cl "read_mark" 6 ["text"] Fread_mark := kread_mark T I11 Gread_fives Gsymbol_in
  have G_law_cell_at : DefOk l.prog w K mg base cl "_law_cell_at" 1 ["_law_script", "_law_k"] F_law_cell_at := k_law_cell_at T I12 
  have G_law_big : DefOk l.prog w K mg base cl "_law_big" 2 ["_law_script", "_law_at"] F_law_big := k_law_big T I13 G_law_cell_at
  have G_law_digit : DefOk l.prog w K mg base cl "_law_digit" 1 ["_law_rest", "_law_many"] F_law_digit := k_law_digit T I14 
  have G_law_address : DefOk l.prog w K mg base cl "_law_address" 2 ["_law_rest", "_law_digits"] F_law_address := k_law_address T I15 G_law_digit
  have G_law_bars : DefOk l.prog w K mg base cl "_law_bars" 1 ["_law_symbol"] F_law_bars := k_law_bars T I16 
  have G_law_symbols : DefOk l.prog w K mg base cl "_law_symbols" 1 ["_law_address_here"] F_law_symbols := k_law_symbols T I17 
  have G_law_places : DefOk l.prog w K mg base cl "_law_places" 2 ["_law_rest", "_law_many", "_law_often"] F_law_places := k_law_places T I18 G_law_digit
  have G_law_value : DefOk l.prog w K mg base cl "_law_value" 1 ["_law_five"] F_law_value := k_law_value T I19 
  have G_law_bent : DefOk l.prog w K mg base cl "_law_bent" 3 ["_law_rest", "_law_fives", "_law_wrong", "_law_unclear"] F_law_bent := k_law_bent T I20 G_law_places G_law_bars G_law_digit G_law_value
  have G_law_sums : DefOk l.prog w K mg base cl "_law_sums" 1 ["_law_some"] F_law_sums := k_law_sums T I21 
  have G_law_filled : DefOk l.prog w K mg base cl "_law_filled" 2 ["_law_some", "_law_places_here"] F_law_filled := k_law_filled T I22 G_law_sums
  have G_law_read : DefOk l.prog w K mg base cl "_law_read" 3 ["_law_fives"] F_law_read := k_law_read T I23 G_law_filled G_law_value
  have G_law_text : DefOk l.prog w K mg base cl "_law_text" 4 ["_law_rest"] F_law_text := k_law_text T I24 G_law_address G_law_digit G_law_bent G_law_bars G_law_symbols
  exact klaw T I25 G_law_text Gread_mark G_law_read G_law_big
end Lw
set_option Elab.async false
set_option linter.all false
set_option maxRecDepth 100000
namespace Lw
open PySem PySem.Spec PyProof.Rows L2 Pu
noncomputable def cellAt (ns : List Int) (k : Nat) : Int := ns[k]?.getD 0
theorem cell_at (ns : List Int) (k : Nat) (S : Sto) : F_law_cell_at [.fls (ns.map D.int), .int k] S = .ok (.int (cellAt ns k)) S := by
  simp only [F_law_cell_at, runD, b_law_cell_at]
  by_cases h : k < ns.length
  · have e : atI (ns.map D.int) (k : Int) = some (.int ns[k]) := atI_nat (by simp [h])
    simp [h, e, cellAt, fin_same]
  · simp [h, cellAt, fin_same]
theorem digit (S : Sto) (k : Nat) (x m : Int) (h : S[k]? = some (.lst [.int x])) (hm : 0 < m) (hl : m.natAbs.log2 < 9000) :
    F_law_digit [.ref k, .int m] S = .ok (.int (x % m)) (S.set k (.lst [.int (x / m)])) := by
  simp only [F_law_digit, runD, b_law_digit]
  have e := stD_lst (v := .int (x / m)) h (show ixN [D.int x].length 0 = some 0 from rfl)
  simp [ixD_ref h, modD_pos hm, fdivD_pos hm hl, e, fin_set0]
/-- the primes -/
noncomputable def prs : List D := [.int 104729, .int 104723, .int 104717, .int 104711, .int 104707, .int 104701, .int 104693]
theorem prs_at (k : Nat) : ∃ p : Int, atI prs ((k : Int) % 7) = some (.int p) ∧ 0 < p := by
  have h : k % 7 < 7 := Nat.mod_lt _ (by decide)
  have e : ((k : Int) % 7) = ((k % 7 : Nat) : Int) := by omega
  rw [e, atI_cast]
  generalize k % 7 = j at h
  match j, h with
  | 0, _ => exact ⟨_, rfl, by decide⟩
  | 1, _ => exact ⟨_, rfl, by decide⟩
  | 2, _ => exact ⟨_, rfl, by decide⟩
  | 3, _ => exact ⟨_, rfl, by decide⟩
  | 4, _ => exact ⟨_, rfl, by decide⟩
  | 5, _ => exact ⟨_, rfl, by decide⟩
  | 6, _ => exact ⟨_, rfl, by decide⟩
theorem big_turn (ns : List Int) (k n : Nat) (hk : k ≤ 1000) (hn : n < 70) (N : Int) (hN : 0 ≤ N) (c : Option D) (S : Sto) : ∃ M : Int, 0 ≤ M ∧
    turn [5, 6] (.nm 5) b_law_big_1 (.int n) [some (.fls (ns.map D.int)), some (.int k), c, some (.tup prs), some (.int N), none, none] S = .next [some (.fls (ns.map D.int)), some (.int k), c, some (.tup prs), some (.int M), none, none] S := by
  obtain ⟨p, hp, hp0⟩ := prs_at n
  have m7 : modD (.int (n : Int)) (.int 7) S = .ok (.int ((n : Int) % 7)) S := modD_pos (by decide)
  have a7 : ((k : Int) + (n : Int) % 7) = ((k + n % 7 : Nat) : Int) := by omega
  generalize hc0 : cellAt ns (k + n % 7) = c0
  have m18 : modD (.int c0) (.int 1000000000000000000) S = .ok (.int (c0 % 1000000000000000000)) S := modD_pos (by decide)
  have k1 : FitMul 11 n := .left (by decide) (by decide)
  have k2 : FitMul 13 k := .left (by decide) (by decide)
  have k3 : FitMul 17 n := .left (by decide) (by decide)
  generalize ho : c0 % 1000000000000000000 + 11 * (n : Int) + 13 * (k : Int) + 3 = o
  have hb : 0 ≤ o ∧ o < 2 ^ 62 := by
    have h1 : 0 ≤ c0 % 1000000000000000000 := Int.emod_nonneg _ (by decide)
    have h2 : c0 % 1000000000000000000 < 1000000000000000000 := Int.emod_lt_of_pos _ (by decide)
    omega
  have k4 : FitMul o o := .left (by omega) (by omega)
  have hoo : o * o < 2 ^ 62 * 2 ^ 62 := mul_lt hb.1 hb.2 hb.1 hb.2
  have hoo0 : 0 ≤ o * o := Int.mul_nonneg hb.1 hb.1
  generalize ho2 : o * o + 17 * (n : Int) + 1 = o2
  have k5 : PowOk o2 3 := .of (b := 126) (by omega) (by decide) (by decide)
  have mp : modD (.int (o2 ^ Int.toNat 3)) (.int p) S = .ok (.int (o2 ^ Int.toNat 3 % p)) S := modD_pos hp0
  have k6 : FitMul N 8191 := .right (by decide) (by decide)
  have k7 : FitMul (o2 ^ Int.toNat 3 % p) ((n : Int) + 5) := .right (by omega) (by omega)
  have ml : modD (.int (o2 ^ Int.toNat 3 % p * (n + 5))) (.int 8191) S = .ok (.int (o2 ^ Int.toNat 3 % p * (n + 5) % 8191)) S := modD_pos (by decide)
  refine ⟨N * 8191 + o2 ^ Int.toNat 3 % p * (n + 5) % 8191, ?_, ?_⟩
  · have h1 : 0 ≤ o2 ^ Int.toNat 3 % p * (n + 5) % 8191 := Int.emod_nonneg _ (by decide)
    omega
  · simp only [turn, b_law_big_1, bindT_nm, List.set, ap_Seq, ap_Set, ap_2, ap_Fn, ap_Args, ap_Args0, ap_Var0, ap_VarS, ap_C, Res.bind_ok, m7, addD_int, a7, cell_at, hc0, p10_18, m18, mulD_ok k1, mulD_ok k2, ho, Res.stm_ok, SRes.seq_next,
      mulD_ok k4, mulD_ok k3, ho2, powD_ok k5, ixD_tup, hp, opt_some, mp, mulD_ok k6, mulD_ok k7, ml]
    rfl
theorem big (ns : List Int) (k : Nat) (hk : k ≤ 1000) (S : Sto) : ∃ N : Int, 0 ≤ N ∧ F_law_big [.fls (ns.map D.int), .int k] S = .ok (.int N) S := by
  simp only [F_law_big, runD, b_law_big]
  simp only [ap_Seq, ap_Set, ap_Fn, ap_Args, ap_Args0, startE_a2, List.replicate, ap_Var0, ap_VarS, Res.bind_ok, cell_at, Res.stm_ok, SRes.seq_next, List.set, ap_If, ap_TB, ap_2, ap_C, p10_18, intD_int, if_true, toB_bl]
  by_cases hc : (1000000000000000000 : Int) ≤ cellAt ns k
  · refine ⟨cellAt ns k, by omega, ?_⟩
    simp [hc, pw18, fin_same]
  · simp only [hc, decide_false, Bool.false_eq_true, if_false, ap_Next, SRes.seq_next, ap_Tup, ap_Args, ap_Args0, Res.bind_ok, ap_C, ap_Set, Res.stm_ok, List.set, ap_Seq, ap_Fgt, ap_For, ap_iR1, srcR1_ap, show Rg62 70 from by decide, if_true, Src.items_tmp]
    obtain ⟨e', S', q, hI⟩ := for_inv0 (dead := [5, 6]) (tg := .nm 5) (body := b_law_big_1) (ys := rngD 0 70) (xs := rngD 0 70) (S := S) (e := [some (.fls (ns.map D.int)), some (.int k), some (.int (cellAt ns k)), some (.tup prs), some (.int 0), none, none])
      (fun n e S' => S' = S ∧ ∃ N : Int, 0 ≤ N ∧ e = [some (.fls (ns.map D.int)), some (.int k), some (.int (cellAt ns k)), some (.tup prs), some (.int N), none, none]) ⟨rfl, 0, Int.le_refl _, rfl⟩ (fun n e S' x hx ⟨eS, N, hN, ee⟩ => by
        subst eS ee
        obtain ⟨ex, hlt⟩ := rngD_get hx
        subst ex
        rw [Int.zero_add]
        obtain ⟨M, hM, q⟩ := big_turn ns k n hk (by omega) N hN (some (.int (cellAt ns k))) S'
        exact ⟨_, _, q, rfl, M, hM, rfl⟩)
    obtain ⟨rfl, N, hN, rfl⟩ := hI
    refine ⟨N, hN, ?_⟩
    have q : forD [5, 6] (.nm 5) (.tmp (rngD 0 70)) b_law_big_1 (rngD 0 70) [some (.fls (ns.map D.int)), some (.int k), some (.int (cellAt ns k)), some (.tup [.int 104729, .int 104723, .int 104717, .int 104711, .int 104707, .int 104701, .int 104693]), some (.int 0), none, none] S' = _ := q
    simp [hc, pw18, q, fin_same, srcR1_ap, show Rg62 70 from by decide]
theorem dig {S : Sto} {k : Nat} {x m : Int} (h : k < S.length) (hm : 0 < m) (hl : m.natAbs.log2 < 9000) : F_law_digit [.ref k, .int m] (Dg S k x) = .ok (.int (x % m)) (Dg S k (x / m)) := by
  rw [digit _ k x m (Dg_at h) hm hl, Dg_set]
theorem enum_map {α : Type} (f : α → D) (xs : List α) (z : α) : enumL (xs.map f) = (List.range xs.length).map fun i => .tpi [.int (i : Nat), f (xs[i]?.getD z)] := by
  unfold enumL
  rw [List.length_map]
  refine List.map_congr_left fun i hi => ?_
  have hi := List.mem_range.mp hi
  simp [hi]
theorem while_go {dead : List Nat} {t : Ev Bool} {body : Stm} {n : Nat} {e e2 : En} {S S1 S2 : Sto} (h : t e S = .ok true S1) (hb : body e S1 = .next e2 S2) : whileN dead t body (n + 1) e S = whileN dead t body n (wipeE e2 dead) S2 := by
  conv => lhs; unfold whileN
  rw [h]
  simp only [hb]
theorem nLcR1s {vs : List Nat} {tg : Tg} {f g : Ev D} {e : En} {S S' : Sto} {ys : List D} {t : Ev Bool} {n : Nat} (hf : f e S = .ok (.int n) S) (hl : n < 1048576) (q : lcD tg (.tmp (rngD 0 n)) t g (wipeE e vs) (rngD 0 n) S = .ok ys S') : nLc vs tg (iR1 f) t g e S = .ok (.lst ys) S' := by
  rw [ap_Lc, ap_iR1, hf, Res.bind_ok, srcR1_ap, if_pos (rg hl), Res.bind_ok]
  simp only [Src.items_tmp]
  rw [if_pos (Nat.le_of_lt (sz (by simpa using hl))), q, Res.bind_ok]
noncomputable def wsum (f : Int → Int) : Int → List Int → Int
  | _, [] => 0
  | p, x :: xs => x * f p + wsum f (p + 1) xs
theorem wsum_set (f : Int → Int) : ∀ (xs : List Int) (p : Int) (i : Nat) (v : Int) (h : i < xs.length), wsum f p (xs.set i v) = wsum f p xs + (v - xs[i]) * f (p + i)
  | x :: xs, p, 0, v, h => by
    simp only [List.set_cons_zero, wsum, List.getElem_cons_zero]
    rw [show p + ((0 : Nat) : Int) = p by omega, Int.sub_mul]
    omega
  | x :: xs, p, i + 1, v, h => by
    simp only [List.set_cons_succ, wsum, List.getElem_cons_succ]
    rw [wsum_set f xs (p + 1) i v (by simpa using h), show p + 1 + (i : Int) = p + ((i + 1 : Nat) : Int) by omega]
    omega
theorem wsum_eq (f : Int → Int) : ∀ (xs : List Int) (p : Int), ((List.range xs.length).map fun i : Nat => xs[i]?.getD 0 * f (p + (i : Int))).sum = wsum f p xs
  | [], p => rfl
  | x :: xs, p => by
    have ih := wsum_eq f xs (p + 1)
    rw [List.length_cons, List.range_succ_eq_map, List.map_cons, List.map_map, List.sum_cons]
    unfold wsum
    rw [← ih]
    congr 1
    · simp
    · congr 1
      refine List.map_congr_left fun i _ => ?_
      simp only [Function.comp, List.getElem?_cons_succ]
      rw [show p + ((i.succ : Nat) : Int) = p + 1 + (i : Int) by omega]
noncomputable def w0 (xs : List Int) : Int := wsum (fun _ => 1) 1 xs
noncomputable def w1 (xs : List Int) : Int := wsum (fun p => p) 1 xs
noncomputable def w2 (xs : List Int) : Int := wsum (fun p => p * p) 1 xs
theorem wsum_1 : ∀ (xs : List Int) (p : Int), wsum (fun _ => 1) p xs = xs.sum
  | [], _ => rfl
  | x :: xs, p => by
    unfold wsum
    rw [wsum_1 xs, List.sum_cons, Int.mul_one]
noncomputable def inv31 (x : Int) : Int := (x % 31) ^ 29 % 31
noncomputable def iv (x : Nat) : Nat := (x % 31) ^ 29 % 31
noncomputable def chk31 (a b c : Nat) : Bool :=
  let i1 := iv ((31 + a - b) * (31 + a - c)); let i2 := iv ((31 + b - a) * (31 + b - c)); let i3 := iv ((31 + c - a) * (31 + c - b))
  let u : Nat → Nat → Nat → Nat := fun x y z => (x * i1 + y * i2 + z * i3) % 31
  a == b || b == c || a == c || (u 1 1 1 == 0 && u (b + c) (a + c) (a + b) == 0 && u (b * c) (a * c) (a * b) == 1 && u a b c == 0 && u (a * (b + c)) (b * (a + c)) (c * (a + b)) == 30 && u (a * (b * c)) (b * (a * c)) (c * (a * b)) == 0 && u (a * a) (b * b) (c * c) == 1 && u (a * a * (b + c)) (b * b * (a + c)) (c * c * (a + b)) == 0 && u (a * a * (b * c)) (b * b * (a * c)) (c * c * (a * b)) == 0)
theorem all31 : ((List.range 31).all fun a => (List.range 31).all fun b => (List.range 31).all fun c => chk31 a b c) = true := by decide +kernel
theorem chk31_at {a b c : Nat} (ha : a < 31) (hb : b < 31) (hc : c < 31) : chk31 a b c = true :=
  List.all_eq_true.mp (List.all_eq_true.mp (List.all_eq_true.mp all31 a (List.mem_range.mpr ha)) b (List.mem_range.mpr hb)) c (List.mem_range.mpr hc)
theorem inv_iv {a b c : Nat} (ha : a < 31) (hb : b < 31) (hc : c < 31) : inv31 (((a : Int) - b) * ((a : Int) - c)) = (iv ((31 + a - b) * (31 + a - c)) : Nat) := by
  have e1 : (((31 + a - b) * (31 + a - c) : Nat) : Int) = ((a : Int) - b) * ((a : Int) - c) + 31 * (31 + ((a : Int) - b) + ((a : Int) - c)) := by
    rw [Int.natCast_mul, show ((31 + a - b : Nat) : Int) = 31 + ((a : Int) - b) by omega, show ((31 + a - c : Nat) : Int) = 31 + ((a : Int) - c) by omega]
    generalize (a : Int) - b = x
    generalize (a : Int) - c = y
    grind
  unfold inv31 iv
  rw [show ((((31 + a - b) * (31 + a - c)) % 31) ^ 29 % 31 : Nat) = (((((31 + a - b) * (31 + a - c) : Nat) : Int) % 31) ^ 29 % 31) by push_cast; rfl, e1, Int.add_mul_emod_self_left]
noncomputable def share31 (p q r A0 A1 A2 : Int) : Int := (-(A2 - (q + r) * A1 + q * r * A0) * inv31 ((p - q) * (p - r))) % 31
theorem lag_id (A0 A1 A2 A a b c fa fb fc i1 i2 i3 r1 r2 r3 : Int) : fa * (-(A2 - (b + c) * A1 + b * c * A0) * i1 + 31 * r1) + fb * (-(A2 - (a + c) * A1 + a * c * A0) * i2 + 31 * r2) + fc * (-(A2 - (a + b) * A1 + a * b * A0) * i3 + 31 * r3) + A = -A2 * (fa * i1 + fb * i2 + fc * i3) + A1 * (fa * (b + c) * i1 + fb * (a + c) * i2 + fc * (a + b) * i3) - A0 * (fa * (b * c) * i1 + fb * (a * c) * i2 + fc * (a * b) * i3) + A + 31 * (fa * r1 + fb * r2 + fc * r3) := by grind
theorem lag_0 (A0 A1 A2 q0 q1 q2 R : Int) : -A2 * (31 * q0 + 0) + A1 * (31 * q1 + 0) - A0 * (31 * q2 + 1) + A0 + 31 * R = 31 * (-A2 * q0 + A1 * q1 - A0 * q2 + R) := by grind
theorem lag_1 (A0 A1 A2 q0 q1 q2 R : Int) : -A2 * (31 * q0 + 0) + A1 * (31 * q1 + 30) - A0 * (31 * q2 + 0) + A1 + 31 * R = 31 * (-A2 * q0 + A1 * (q1 + 1) - A0 * q2 + R) := by grind
theorem lag_2 (A0 A1 A2 q0 q1 q2 R : Int) : -A2 * (31 * q0 + 1) + A1 * (31 * q1 + 0) - A0 * (31 * q2 + 0) + A2 + 31 * R = 31 * (-A2 * q0 + A1 * q1 - A0 * q2 + R) := by grind
theorem mod_q (x r : Nat) (h : x % 31 = r) : ∃ q : Int, (x : Int) = 31 * q + r := ⟨((x / 31 : Nat) : Int), by omega⟩
theorem lag_3 (am ad q fi fj fk x y z r1 r2 r3 : Int) : 31 * q - (fi * x + fj * y + fk * z) + 31 * ad + (x + 31 * r1) * fi + (y + 31 * r2) * fj + (z + 31 * r3) * fk = 31 * (q + ad + r1 * fi + r2 * fj + r3 * fk) := by grind
/-- three shares make the three sums nothing -/
theorem lagr {a b c : Nat} (ha : a < 31) (hb : b < 31) (hc : c < 31) (h1 : a ≠ b) (h2 : b ≠ c) (h3 : a ≠ c) (A0 A1 A2 : Int) :
    let x := share31 a b c A0 A1 A2; let y := share31 b a c A0 A1 A2; let z := share31 c a b A0 A1 A2
    (∃ q, x + y + z + A0 = 31 * q) ∧ (∃ q, a * x + b * y + c * z + A1 = 31 * q) ∧ (∃ q, (a * a : Int) * x + (b * b : Int) * y + (c * c : Int) * z + A2 = 31 * q) := by
  have k := chk31_at ha hb hc
  unfold chk31 at k
  simp only [Bool.or_eq_true, beq_iff_eq, Bool.and_eq_true] at k
  have k' := (k.resolve_left (fun z => by rcases z with (z | z) | z <;> omega))
  obtain ⟨⟨⟨⟨⟨⟨⟨⟨k0, k1⟩, k2⟩, k3⟩, k4⟩, k5⟩, k6⟩, k7⟩, k8⟩ := k'
  have e1 := inv_iv ha hb hc
  have e2' := inv_iv hb ha hc
  have e3 := inv_iv hc ha hb
  generalize iv ((31 + a - b) * (31 + a - c)) = i1 at *
  generalize iv ((31 + b - a) * (31 + b - c)) = i2 at *
  generalize iv ((31 + c - a) * (31 + c - b)) = i3 at *
  obtain ⟨q0, g0⟩ := mod_q _ _ k0
  obtain ⟨q1, g1⟩ := mod_q _ _ k1
  obtain ⟨q2, g2⟩ := mod_q _ _ k2
  obtain ⟨q3, g3⟩ := mod_q _ _ k3
  obtain ⟨q4, g4⟩ := mod_q _ _ k4
  obtain ⟨q5, g5⟩ := mod_q _ _ k5
  obtain ⟨q6, g6⟩ := mod_q _ _ k6
  obtain ⟨q7, g7⟩ := mod_q _ _ k7
  obtain ⟨q8, g8⟩ := mod_q _ _ k8
  push_cast at g0 g1 g2 g3 g4 g5 g6 g7 g8
  have md : ∀ u : Int, u % 31 = u + 31 * (-(u / 31)) := fun u => by omega
  simp only [share31, e1, e2', e3]
  rw [md (-(A2 - (↑b + ↑c) * A1 + ↑b * ↑c * A0) * (i1 : Int)), md (-(A2 - (↑a + ↑c) * A1 + ↑a * ↑c * A0) * (i2 : Int)), md (-(A2 - (↑a + ↑b) * A1 + ↑a * ↑b * A0) * (i3 : Int))]
  generalize -(-(A2 - ((b : Int) + c) * A1 + b * c * A0) * (i1 : Int) / 31) = r1
  generalize -(-(A2 - ((a : Int) + c) * A1 + a * c * A0) * (i2 : Int) / 31) = r2
  generalize -(-(A2 - ((a : Int) + b) * A1 + a * b * A0) * (i3 : Int) / 31) = r3
  refine ⟨⟨-A2 * q0 + A1 * q1 - A0 * q2 + (r1 + r2 + r3), ?_⟩, ⟨-A2 * q3 + A1 * (q4 + 1) - A0 * q5 + (a * r1 + b * r2 + c * r3), ?_⟩, ⟨-A2 * q6 + A1 * q7 - A0 * q8 + ((a * a : Int) * r1 + (b * b : Int) * r2 + (c * c : Int) * r3), ?_⟩⟩
  · have := lag_id A0 A1 A2 A0 a b c 1 1 1 i1 i2 i3 r1 r2 r3
    simp only [Int.one_mul] at this g0 g1 g2
    rw [this, g0, g1, g2]
    exact lag_0 _ _ _ _ _ _ _
  · have := lag_id A0 A1 A2 A1 a b c a b c i1 i2 i3 r1 r2 r3
    rw [this, g3, g4, g5]
    exact lag_1 _ _ _ _ _ _ _
  · have := lag_id A0 A1 A2 A2 a b c (a * a) (b * b) (c * c) i1 i2 i3 r1 r2 r3
    rw [this, g6, g7, g8]
    exact lag_2 _ _ _ _ _ _ _
/-- the made symbols, i, j, k the places by 0 -/
noncomputable def fil3 (xs : List Int) (i j k : Nat) : List Int :=
  let s := fun p q r : Nat => share31 ((p : Int) + 1) ((q : Int) + 1) ((r : Int) + 1) (w0 xs % 31) (w1 xs % 31) (w2 xs % 31)
  ((xs.set i ((xs[i]?.getD 0 + s i j k) % 31)).set j ((xs[j]?.getD 0 + s j i k) % 31)).set k ((xs[k]?.getD 0 + s k i j) % 31)
theorem fil3_sums {xs : List Int} {i j k : Nat} (hn : xs.length ≤ 30) (hi : i < xs.length) (hj : j < xs.length) (hk : k < xs.length) (h1 : i ≠ j) (h2 : j ≠ k) (h3 : i ≠ k) : w0 (fil3 xs i j k) % 31 = 0 ∧ w1 (fil3 xs i j k) % 31 = 0 ∧ w2 (fil3 xs i j k) % 31 = 0 := by
  obtain ⟨⟨q0, g0⟩, ⟨q1, g1⟩, ⟨q2, g2⟩⟩ := lagr (a := i + 1) (b := j + 1) (c := k + 1) (by omega) (by omega) (by omega) (by omega) (by omega) (by omega) (w0 xs % 31) (w1 xs % 31) (w2 xs % 31)
  have gi : xs[i]?.getD 0 = xs[i] := by rw [List.getElem?_eq_getElem hi]; rfl
  have gj : xs[j]?.getD 0 = xs[j] := by rw [List.getElem?_eq_getElem hj]; rfl
  have gk : xs[k]?.getD 0 = xs[k] := by rw [List.getElem?_eq_getElem hk]; rfl
  have sets : ∀ (f : Int → Int) (x y z : Int), wsum f 1 (((xs.set i x).set j y).set k z) = wsum f 1 xs + (x - xs[i]) * f (1 + i) + (y - xs[j]) * f (1 + j) + (z - xs[k]) * f (1 + k) := fun f x y z => by
    rw [wsum_set f _ _ _ _ (by simpa using hk), wsum_set f _ _ _ _ (by simpa using hj), wsum_set f _ _ _ _ hi]
    rw [List.getElem_set_ne h2, List.getElem_set_ne h1, List.getElem_set_ne h3]
  unfold fil3
  simp only
  rw [gi, gj, gk]
  rw [show ((i + 1 : Nat) : Int) = (i : Int) + 1 by omega, show ((j + 1 : Nat) : Int) = (j : Int) + 1 by omega, show ((k + 1 : Nat) : Int) = (k : Int) + 1 by omega] at g0 g1 g2
  generalize share31 ((i : Int) + 1) ((j : Int) + 1) ((k : Int) + 1) (w0 xs % 31) (w1 xs % 31) (w2 xs % 31) = x at *
  generalize share31 ((j : Int) + 1) ((i : Int) + 1) ((k : Int) + 1) (w0 xs % 31) (w1 xs % 31) (w2 xs % 31) = y at *
  generalize share31 ((k : Int) + 1) ((i : Int) + 1) ((j : Int) + 1) (w0 xs % 31) (w1 xs % 31) (w2 xs % 31) = z at *
  have md : ∀ u v : Int, ∃ r : Int, (u + v) % 31 - u = v + 31 * r := fun u v => ⟨-((u + v) / 31), by omega⟩
  obtain ⟨r1, m1⟩ := md xs[i] x
  obtain ⟨r2, m2⟩ := md xs[j] y
  obtain ⟨r3, m3⟩ := md xs[k] z
  have fin : ∀ (f : Int → Int) (A q : Int), A = wsum f 1 xs → f (1 + i) * x + f (1 + j) * y + f (1 + k) * z + A % 31 = 31 * q → wsum f 1 (((xs.set i ((xs[i] + x) % 31)).set j ((xs[j] + y) % 31)).set k ((xs[k] + z) % 31)) % 31 = 0 := fun f A q hA h => by
    rw [sets, m1, m2, m3, ← hA]
    have e : A = A % 31 + 31 * (A / 31) := by omega
    have : A + (x + 31 * r1) * f (1 + i) + (y + 31 * r2) * f (1 + j) + (z + 31 * r3) * f (1 + k) = 31 * (q + A / 31 + r1 * f (1 + i) + r2 * f (1 + j) + r3 * f (1 + k)) := by
      generalize f (1 + (i : Int)) = fi at *
      generalize f (1 + (j : Int)) = fj at *
      generalize f (1 + (k : Int)) = fk at *
      generalize A % 31 = am at *
      generalize A / 31 = ad at *
      have h' : am = 31 * q - (fi * x + fj * y + fk * z) := by
        generalize fi * x = u1 at *
        generalize fj * y = u2 at *
        generalize fk * z = u3 at *
        omega
      rw [e, h']
      exact lag_3 am _ _ _ _ _ _ _ _ _ _ _
    rw [this]
    exact Int.mul_emod_right _ _
  refine ⟨fin _ (w0 xs) q0 rfl (by simpa using g0), fin _ (w1 xs) q1 rfl ?_, fin _ (w2 xs) q2 rfl ?_⟩
  · rw [show 1 + (i : Int) = (i : Int) + 1 by omega, show 1 + (j : Int) = (j : Int) + 1 by omega, show 1 + (k : Int) = (k : Int) + 1 by omega]
    exact g1
  · rw [show 1 + (i : Int) = (i : Int) + 1 by omega, show 1 + (j : Int) = (j : Int) + 1 by omega, show 1 + (k : Int) = (k : Int) + 1 by omega]
    exact g2
theorem fil3_len (xs : List Int) (i j k : Nat) : (fil3 xs i j k).length = xs.length := by
  simp [fil3]
theorem fil3_rng {xs : List Int} (i j k : Nat) (h : ∀ x ∈ xs, 0 ≤ x ∧ x < 31) : ∀ x ∈ fil3 xs i j k, 0 ≤ x ∧ x < 31 := fun x hx => by
  have m : ∀ u : Int, 0 ≤ u % 31 ∧ u % 31 < 31 := fun u => by omega
  unfold fil3 at hx
  rcases List.mem_or_eq_of_mem_set hx with hx | hx
  · rcases List.mem_or_eq_of_mem_set hx with hx | hx
    · rcases List.mem_or_eq_of_mem_set hx with hx | hx
      · exact h x hx
      · rw [hx]; exact m _
    · rw [hx]; exact m _
  · rw [hx]; exact m _
noncomputable def numF : List Int → Int
  | [] => 0
  | d :: ds => d + 31 * numF ds
noncomputable def DsOk (ds : List Int) : Prop := (∀ d ∈ ds, 0 ≤ d ∧ d < 31) ∧ ∀ d, ds.getLast? = some d → 0 < d
theorem DsOk.tail {d : Int} {ds : List Int} (h : DsOk (d :: ds)) : DsOk ds := ⟨fun x hx => h.1 x (List.mem_cons_of_mem _ hx), fun x hx => h.2 x (by
  cases ds with
  | nil => cases hx
  | cons y ds => rw [List.getLast?_cons_cons]; exact hx)⟩
theorem numF_nn : ∀ {ds : List Int}, (∀ d ∈ ds, 0 ≤ d ∧ d < 31) → 0 ≤ numF ds
  | [], _ => Int.le_refl _
  | d :: ds, h => by
    have h1 := numF_nn fun x hx => h x (List.mem_cons_of_mem _ hx)
    have h2 := h d List.mem_cons_self
    unfold numF
    omega
theorem numF_pos : ∀ {ds : List Int}, ds ≠ [] → DsOk ds → 0 < numF ds
  | [d], _, h => by
    have := h.2 d rfl
    unfold numF numF
    omega
  | d :: e :: ds, _, h => by
    have h1 := numF_pos (ds := e :: ds) (by simp) h.tail
    have h2 := h.1 d List.mem_cons_self
    unfold numF
    omega
theorem nLcEA_lst {vs : List Nat} {tg : Tg} {f g : Ev D} {t : Ev Bool} {e : En} {S : Sto} {xs ys : List D} (hf : f e S = .ok (.lst xs) S) (hl : xs.length < 1000000) (q : lcD tg (.tmp (enumL xs)) t g (wipeE e vs) (enumL xs) S = .ok ys S) : nLc vs tg (iEA f) t g e S = .ok (.lst ys) S := by
  rw [ap_Lc, ap_iEA, hf, Res.bind_ok]
  show (if _ then _ else _) = _
  rw [if_pos (Nat.le_of_lt (sz (by show (enumL xs).length < _; unfold enumL; simp; omega)))]
  show (lcD tg (.tmp (enumL xs)) t g (wipeE e vs) (enumL xs) S).bind _ = _
  rw [q, Res.bind_ok]
theorem inverse_is (S : Sto) (x : Int) : Finverse [.int x] S = .ok (.int (inv31 x)) S := by
  have b1 : 0 ≤ x % 31 := Int.emod_nonneg _ (by decide)
  have b2 : x % 31 < 31 := Int.emod_lt_of_pos _ (by decide)
  have pw : PowOk (x % 31) 29 := .of (b := 5) (by omega) (by decide) (by decide)
  have m1 : ∀ y, modD (.int y) (.int 31) S = .ok (.int (y % 31)) S := fun y => modD_pos (by decide)
  simp only [Finverse, runD, binverse, go0, goS, m1, powD_ok pw]
  exact fin_same rfl
theorem inv_b (x : Int) : 0 ≤ inv31 x ∧ inv31 x < 31 := ⟨Int.emod_nonneg _ (by decide), Int.emod_lt_of_pos _ (by decide)⟩
theorem share_is (S : Sto) (p q r A0 A1 A2 : Int) (hp : 0 ≤ p ∧ p < 1000) (hq : 0 ≤ q ∧ q < 1000) (hr : 0 ≤ r ∧ r < 1000) (h0 : 0 ≤ A0 ∧ A0 < 31) (h1 : 0 ≤ A1 ∧ A1 < 31) : Fshare_at [.int p, .int q, .int r, .tup [.int A0, .int A1, .int A2]] S = .ok (.int (share31 p q r A0 A1 A2)) S := by
  have iv := inverse_is S ((p - q) * (p - r))
  have ib := inv_b ((p - q) * (p - r))
  have f1 : FitMul (q + r) A1 := .left (by omega) (by omega)
  have f2 : FitMul q r := .left (by omega) (by omega)
  have f3 : FitMul (q * r) A0 := .right (by omega) (by omega)
  have f4 : FitMul (p - q) (p - r) := .left (by omega) (by omega)
  have f5 : FitMul (-(A2 - (q + r) * A1 + q * r * A0)) (inv31 ((p - q) * (p - r))) := .right (by omega) (by omega)
  have m1 : ∀ y, modD (.int y) (.int 31) S = .ok (.int (y % 31)) S := fun y => modD_pos (by decide)
  simp only [Fshare_at, runD, bshare_at, go0, goS, addD_int, subD_i, mulD_ok f1, mulD_ok f2, mulD_ok f3, mulD_ok f4, iv, negD_int, mulD_ok f5, m1]
  exact fin_same rfl
theorem sums_is (S : Sto) (xs : List Int) (hn : xs.length ≤ 1000) (hx : ∀ x ∈ xs, 0 ≤ x ∧ x < 31) : Fsums_of [.lst (xs.map D.int)] S = .ok (.tup [.int (w0 xs % 31), .int (w1 xs % 31), .int (w2 xs % 31)]) S := by
  have gx : ∀ i, i ∈ List.range xs.length → 0 ≤ xs[i]?.getD 0 ∧ xs[i]?.getD 0 < 31 ∧ i < xs.length := fun i hi => by
    have h := List.mem_range.mp hi
    rw [List.getElem?_eq_getElem h]
    have := hx _ (List.getElem_mem h)
    exact ⟨this.1, this.2, h⟩
  have n1 : nLc [4, 5] (.tp [(.nm 4), (.nm 5)]) (iEA (eVar 0)) tYesD (e2 mulD (eVar 5) (e2 addD (eVar 4) (eC (.int 1)))) [some (.lst (xs.map D.int)), some (.int xs.sum), none, none, none, none] S = .ok (.lst (((List.range xs.length).map fun i : Nat => xs[i]?.getD 0 * (1 + (i : Int))).map D.int)) S := by
    refine nLcEA_lst rfl (by rw [List.length_map]; omega) ?_
    rw [enum_map D.int xs 0, List.map_map]
    refine lc_all _ _ _ fun i hi => ⟨[some (.lst (xs.map D.int)), some (.int xs.sum), none, none, some (.int (i : Nat)), some (.int (xs[i]?.getD 0))], rfl, ?_⟩
    have := gx i hi
    have f1 : FitMul (xs[i]?.getD 0) ((i : Int) + 1) := .left (by omega) (by omega)
    simp only [goS, addD_int, mulD_ok f1, Function.comp, Int.add_comm]
  have n2 : nLc [4, 5] (.tp [(.nm 4), (.nm 5)]) (iEA (eVar 0)) tYesD (e2 mulD (e2 mulD (eVar 5) (e2 addD (eVar 4) (eC (.int 1)))) (e2 addD (eVar 4) (eC (.int 1)))) [some (.lst (xs.map D.int)), some (.int xs.sum), some (.int (w1 xs)), none, none, none] S = .ok (.lst (((List.range xs.length).map fun i : Nat => xs[i]?.getD 0 * ((1 + (i : Int)) * (1 + (i : Int)))).map D.int)) S := by
    refine nLcEA_lst rfl (by rw [List.length_map]; omega) ?_
    rw [enum_map D.int xs 0, List.map_map]
    refine lc_all _ _ _ fun i hi => ⟨[some (.lst (xs.map D.int)), some (.int xs.sum), some (.int (w1 xs)), none, some (.int (i : Nat)), some (.int (xs[i]?.getD 0))], rfl, ?_⟩
    have := gx i hi
    have f1 : FitMul (xs[i]?.getD 0) ((i : Int) + 1) := .left (by omega) (by omega)
    have f2 : FitMul (xs[i]?.getD 0 * ((i : Int) + 1)) ((i : Int) + 1) := .right (by omega) (by omega)
    simp only [goS, addD_int, mulD_ok f1, mulD_ok f2, Function.comp]
    rw [Int.mul_assoc, Int.add_comm (i : Int) 1]
  have e1 : ((List.range xs.length).map fun i : Nat => xs[i]?.getD 0 * (1 + (i : Int))).sum = w1 xs := wsum_eq (fun p => p) xs 1
  have e2' : ((List.range xs.length).map fun i : Nat => xs[i]?.getD 0 * ((1 + (i : Int)) * (1 + (i : Int)))).sum = w2 xs := wsum_eq (fun p => p * p) xs 1
  have e0 : xs.sum = w0 xs := (wsum_1 xs 1).symm
  have m1 : ∀ y, modD (.int y) (.int 31) S = .ok (.int (y % 31)) S := fun y => modD_pos (by decide)
  simp only [Fsums_of, runD, bsums_of, go0, goS, smB_map, n1, intsD_map, e1, n2, e2', m1]
  rw [e0]
  exact fin_same rfl
theorem filled_is (S : Sto) (xs : List Int) (i j k : Nat) (hn : xs.length ≤ 900) (hx : ∀ x ∈ xs, 0 ≤ x ∧ x < 31) (hi : i < xs.length) (hj : j < xs.length) (hk : k < xs.length) (h1 : i ≠ j) (h2 : j ≠ k) (h3 : i ≠ k) : Ffilled [.lst (xs.map D.int), .lst [.int ((i : Int) + 1), .int ((j : Int) + 1), .int ((k : Int) + 1)]] S = .ok (.lst ((fil3 xs i j k).map D.int)) S := by
  have sm := sums_is S xs (by omega) hx
  have mb : ∀ y : Int, 0 ≤ y % 31 ∧ y % 31 < 31 := fun y => by omega
  have sh : ∀ (T : Sto) (a b c : Nat), a < xs.length → b < xs.length → c < xs.length → Fshare_at [.int ((a : Int) + 1), .int ((b : Int) + 1), .int ((c : Int) + 1), .tup [.int (w0 xs % 31), .int (w1 xs % 31), .int (w2 xs % 31)]] T = .ok (.int (share31 ((a : Int) + 1) ((b : Int) + 1) ((c : Int) + 1) (w0 xs % 31) (w1 xs % 31) (w2 xs % 31))) T := fun T a b c ha hb hc => share_is T _ _ _ _ _ _ (by omega) (by omega) (by omega) (mb _) (mb _)
  generalize hs : (fun p q r : Nat => share31 ((p : Int) + 1) ((q : Int) + 1) ((r : Int) + 1) (w0 xs % 31) (w1 xs % 31) (w2 xs % 31)) = s
  have sh' : ∀ (T : Sto) (a b c : Nat), a < xs.length → b < xs.length → c < xs.length → Fshare_at [.int ((a : Int) + 1), .int ((b : Int) + 1), .int ((c : Int) + 1), .tup [.int (w0 xs % 31), .int (w1 xs % 31), .int (w2 xs % 31)]] T = .ok (.int (s a b c)) T := fun T a b c ha hb hc => by rw [sh T a b c ha hb hc, ← hs]
  let E : En := [some (.lst (xs.map D.int)), some (.lst [.int ((i : Int) + 1), .int ((j : Int) + 1), .int ((k : Int) + 1)]), some (.tup [.int (w0 xs % 31), .int (w1 xs % 31), .int (w2 xs % 31)]), some (.ref S.length), none, none, none]
  have tn : ∀ (m : Nat) (a b c : Nat) (ys : List Int), ys.length = xs.length → ys[a]? = xs[a]? → a < xs.length → b < xs.length → c < xs.length →
      addD (.lst (cutL [.int ((i : Int) + 1), .int ((j : Int) + 1), .int ((k : Int) + 1)] none (some (m : Int)))) (.lst (cutL [.int ((i : Int) + 1), .int ((j : Int) + 1), .int ((k : Int) + 1)] (some ((m : Int) + 1)) none)) (S ++ [.lst (ys.map D.int)]) = .ok (.lst [.int ((b : Int) + 1), .int ((c : Int) + 1)]) (S ++ [.lst (ys.map D.int)]) →
      turn [4, 5, 6] (.tp [.nm 4, .nm 5]) bfilled_1 (.tpi [.int (m : Nat), .int ((a : Int) + 1)]) E (S ++ [.lst (ys.map D.int)]) = .next E (S ++ [.lst ((ys.set a ((xs[a]?.getD 0 + s a b c) % 31)).map D.int)]) := fun m a b c ys hl ha' ha hb hc had => by
    have hat : (S ++ [DO.lst (ys.map D.int)])[S.length]? = some (.lst (ys.map D.int)) := last_at
    have ix : ixD (.ref S.length) (.int ((a : Int) + 1 - 1)) (S ++ [DO.lst (ys.map D.int)]) = .ok (.int (xs[a]?.getD 0)) (S ++ [DO.lst (ys.map D.int)]) := by
      rw [ixD_ref hat, show (a : Int) + 1 - 1 = (a : Nat) by omega, atI_cast, List.getElem?_map, ha', List.getElem?_eq_getElem ha]
      rfl
    have st : stD (.ref S.length) (.int ((a : Int) + 1 - 1)) (.int ((xs[a]?.getD 0 + s a b c) % 31)) (S ++ [DO.lst (ys.map D.int)]) = some (S ++ [.lst ((ys.set a ((xs[a]?.getD 0 + s a b c) % 31)).map D.int)]) := by
      rw [stD_lst hat (n := a) (by
        rw [show (a : Int) + 1 - 1 = (a : Nat) by omega, List.length_map]
        unfold ixN
        rw [if_pos (by omega), if_pos (by omega)]
        simp), set_last, List.map_set]
    have m1 : ∀ y T, modD (.int y) (.int 31) T = .ok (.int (y % 31)) T := fun y T => modD_pos (by decide)
    have g0 : ∀ T, ixD (.lst [.int ((b : Int) + 1), .int ((c : Int) + 1)]) (.int 0) T = .ok (.int ((b : Int) + 1)) T := fun T => rfl
    have g1 : ∀ T, ixD (.lst [.int ((b : Int) + 1), .int ((c : Int) + 1)]) (.int 1) T = .ok (.int ((c : Int) + 1)) T := fun T => rfl
    have bt : bindT (.tp [.nm 4, .nm 5]) (.tpi [.int (m : Nat), .int ((a : Int) + 1)]) E = some [some (.lst (xs.map D.int)), some (.lst [.int ((i : Int) + 1), .int ((j : Int) + 1), .int ((k : Int) + 1)]), some (.tup [.int (w0 xs % 31), .int (w1 xs % 31), .int (w2 xs % 31)]), some (.ref S.length), some (.int (m : Nat)), some (.int ((a : Int) + 1)), none] := rfl
    simp only [turn, bt]
    simp only [goS, bfilled_1, addD_int, slD_lst, had, subD_i, ix, g0, g1, sh' _ a b c ha hb hc, m1, st]
    rfl
  have a0 : ∀ T, addD (.lst (cutL [D.int ((i : Int) + 1), .int ((j : Int) + 1), .int ((k : Int) + 1)] none (some ((0 : Nat) : Int)))) (.lst (cutL [.int ((i : Int) + 1), .int ((j : Int) + 1), .int ((k : Int) + 1)] (some (((0 : Nat) : Int) + 1)) none)) T = .ok (.lst [.int ((j : Int) + 1), .int ((k : Int) + 1)]) T := fun T => by
    rw [cut_to, show ((0 : Nat) : Int) + 1 = ((1 : Nat) : Int) from rfl, cut_from, addL (by simp)]
    rfl
  have a1 : ∀ T, addD (.lst (cutL [D.int ((i : Int) + 1), .int ((j : Int) + 1), .int ((k : Int) + 1)] none (some ((1 : Nat) : Int)))) (.lst (cutL [.int ((i : Int) + 1), .int ((j : Int) + 1), .int ((k : Int) + 1)] (some (((1 : Nat) : Int) + 1)) none)) T = .ok (.lst [.int ((i : Int) + 1), .int ((k : Int) + 1)]) T := fun T => by
    rw [cut_to, show ((1 : Nat) : Int) + 1 = ((2 : Nat) : Int) from rfl, cut_from, addL (by simp)]
    rfl
  have a2 : ∀ T, addD (.lst (cutL [D.int ((i : Int) + 1), .int ((j : Int) + 1), .int ((k : Int) + 1)] none (some ((2 : Nat) : Int)))) (.lst (cutL [.int ((i : Int) + 1), .int ((j : Int) + 1), .int ((k : Int) + 1)] (some (((2 : Nat) : Int) + 1)) none)) T = .ok (.lst [.int ((i : Int) + 1), .int ((j : Int) + 1)]) T := fun T => by
    rw [cut_to, show ((2 : Nat) : Int) + 1 = ((3 : Nat) : Int) from rfl, cut_from, addL (by simp)]
    rfl
  have t0 := tn 0 i j k xs rfl rfl hi hj hk (a0 _)
  have t1 := tn 1 j i k (xs.set i ((xs[i]?.getD 0 + s i j k) % 31)) (by simp) (by rw [List.getElem?_set_ne h1]) hj hi hk (a1 _)
  have t2 := tn 2 k i j ((xs.set i ((xs[i]?.getD 0 + s i j k) % 31)).set j ((xs[j]?.getD 0 + s j i k) % 31)) (by simp) (by rw [List.getElem?_set_ne h2, List.getElem?_set_ne h3]) hk hi hj (a2 _)
  have hfil : fil3 xs i j k = (((xs.set i ((xs[i]?.getD 0 + s i j k) % 31)).set j ((xs[j]?.getD 0 + s j i k) % 31)).set k ((xs[k]?.getD 0 + s k i j) % 31)) := by
    unfold fil3
    rw [hs]
  have en : enumL [D.int ((i : Int) + 1), .int ((j : Int) + 1), .int ((k : Int) + 1)] = [.tpi [.int (0 : Nat), .int ((i : Int) + 1)], .tpi [.int (1 : Nat), .int ((j : Int) + 1)], .tpi [.int (2 : Nat), .int ((k : Int) + 1)]] := rfl
  have nl : ∀ e, nListOf (eVar 0) ((some (.lst (xs.map D.int))) :: e) S = .ok (.lst (xs.map D.int)) S := fun e => by
    unfold nListOf
    simp only [goS]
    rfl
  simp only [Ffilled, runD, bfilled, go0, goS, sm, nl]
  rw [ap_For, ap_iEA]
  simp only [goS]
  have sr : srcEA (.lst [D.int ((i : Int) + 1), .int ((j : Int) + 1), .int ((k : Int) + 1)]) (S ++ [.lst (xs.map D.int)]) = .ok (.tmp [.tpi [.int (0 : Nat), .int ((i : Int) + 1)], .tpi [.int (1 : Nat), .int ((j : Int) + 1)], .tpi [.int (2 : Nat), .int ((k : Int) + 1)]]) (S ++ [.lst (xs.map D.int)]) := by
    show Res.ok (Src.tmp (enumL _)) _ = _
    rw [en]
  rw [sr]
  simp only [goS, Src.items_tmp]
  simp only [E] at t0 t1 t2
  rw [forD_cons (src := .tmp _) trivial, t0]
  simp only
  rw [forD_cons (src := .tmp _) trivial, t1]
  simp only
  rw [forD_cons (src := .tmp _) trivial, t2]
  simp only
  rw [forD_nil (src := .tmp _) trivial]
  simp only [goS]
  rw [hfil]
  exact finR_app (Nat.le_refl _) last_at (gnds_ints _)
noncomputable abbrev Sa : Type := Int × List Int
noncomputable def adD (a : Sa) : D := .tup [.int a.1, .int (numF a.2)]
structure SaOk (a : Sa) : Prop where
  st : 0 ≤ a.1 ∧ a.1 < 31
  ds : DsOk a.2
  l1 : 1 ≤ a.2.length
  l2 : a.2.length ≤ 26
/-- the symbols of an address -/
noncomputable def symB (a : Sa) : List Int := a.1 :: a.2 ++ [0, 0, 0]
noncomputable def symL (a : Sa) : List Int := fil3 (symB a) (a.2.length + 1) (a.2.length + 2) (a.2.length + 3)
theorem symB_len (a : Sa) : (symB a).length = a.2.length + 4 := by simp [symB]
theorem symB_rng {a : Sa} (h : SaOk a) : ∀ x ∈ symB a, 0 ≤ x ∧ x < 31 := fun x hx => by
  unfold symB at hx
  rcases List.mem_append.mp hx with hx | hx
  · rcases List.mem_cons.mp hx with hx | hx
    · rw [hx]; exact h.st
    · exact h.ds.1 x hx
  · simp at hx
    omega
theorem symL_len (a : Sa) : (symL a).length = a.2.length + 4 := by rw [symL, fil3_len, symB_len]
theorem symL_rng {a : Sa} (h : SaOk a) : ∀ x ∈ symL a, 0 ≤ x ∧ x < 31 := fil3_rng _ _ _ (symB_rng h)
theorem symL_sums {a : Sa} (h : SaOk a) : w0 (symL a) % 31 = 0 ∧ w1 (symL a) % 31 = 0 ∧ w2 (symL a) % 31 = 0 := by
  have := h.l2
  exact fil3_sums (by rw [symB_len]; omega) (by rw [symB_len]; omega) (by rw [symB_len]; omega) (by rw [symB_len]; omega) (by omega) (by omega) (by omega)
theorem symL_take (a : Sa) : (symL a).take (a.2.length + 1) = a.1 :: a.2 := by
  unfold symL fil3
  simp only
  rw [List.take_set_of_le (by omega), List.take_set_of_le (by omega), List.take_set_of_le (by omega)]
  unfold symB
  rw [List.take_left' (by simp)]
theorem address {S : Sto} {k : Nat} {x : Int} (h : k < S.length) (m : Nat) (h1 : 1 ≤ m) (h2 : m ≤ 26) : ∃ (a : Sa) (y : Int), SaOk a ∧ a.2.length = m ∧ F_law_address [.ref k, .int (m : Nat)] (Dg S k x) = .ok (adD a) (Dg S k y) := by
  obtain ⟨e', S', q, ds, y, hl, hd, ee, eS⟩ := for_inv0 (dead := [3, 4]) (tg := .nm 3) (body := b_law_address_1) (e := [some (.ref k), some (.int (m : Nat)), some (.int 0), none, none]) (S := Dg S k x) (ys := rngD 0 m) (xs := rngD 0 m) (fun n e S' => ∃ (ds : List Int) (y : Int), ds.length = n ∧ DsOk ds ∧ e = [some (.ref k), some (.int (m : Nat)), some (.int (numF ds)), none, none] ∧ S' = Dg S k y) ⟨[], x, rfl, ⟨fun d hd => absurd hd List.not_mem_nil, fun d hd => nomatch hd⟩, rfl, rfl⟩ (fun n e S' v hv ⟨ds, y, hl, hd, ee, eS⟩ => by
    subst ee eS
    rw [rng_map, List.getElem?_map, Option.map_eq_some_iff] at hv
    obtain ⟨n', hn', rfl⟩ := hv
    have hnn : n' = n := by
      have := List.getElem?_range (n := m) (i := n) (by
        have := (List.getElem?_eq_some_iff.mp hn').1
        simpa using this)
      rw [this] at hn'
      exact (Option.some.inj hn').symm
    subst hnn
    have m31 : FitMul (numF ds) 31 := .right (by decide) (by decide)
    have nn := numF_nn hd.1
    by_cases h0 : n' = 0
    · subst h0
      have e0 : ds = [] := List.length_eq_zero_iff.mp hl
      subst e0
      have dg := dig (x := y) (m := 30) h (by decide) (by decide)
      have b1 : 0 ≤ y % 30 := Int.emod_nonneg _ (by decide)
      have b2 : y % 30 < 30 := Int.emod_lt_of_pos _ (by decide)
      refine ⟨[some (.ref k), some (.int (m : Nat)), some (.int (numF [1 + y % 30])), none, none], Dg S k (y / 30), ?_, [1 + y % 30], y / 30, rfl, ⟨fun d hd => by rw [List.mem_singleton.mp hd]; omega, fun d hd => by
        have e9 : 1 + y % 30 = d := Option.some.inj hd
        omega⟩, rfl, rfl⟩
      have nf : numF [1 + y % 30] = 0 * 31 + 1 + y % 30 := by
        unfold numF numF
        omega
      rw [nf]
      have m0 : FitMul 0 31 := .right (by decide) (by decide)
      have s1 : (31 : Int) - 1 = 30 := rfl
      simp only [turn, goS, b_law_address_1, show ((0 : Nat) : Int) = 0 from rfl, eqD_int, decide_true, int1_bl, if_true, numF, mulD_ok m0, addD_int, subD_i, s1, dg]
    · have dg := dig (x := y) (m := 31) h (by decide) (by decide)
      have b1 : 0 ≤ y % 31 := Int.emod_nonneg _ (by decide)
      have b2 : y % 31 < 31 := Int.emod_lt_of_pos _ (by decide)
      refine ⟨[some (.ref k), some (.int (m : Nat)), some (.int (numF (y % 31 :: ds))), none, none], Dg S k (y / 31), ?_, y % 31 :: ds, y / 31, by rw [List.length_cons, hl], ⟨fun d hd' => by
          rcases List.mem_cons.mp hd' with e | e
          · omega
          · exact hd.1 d e, fun d hd' => by
          cases ds with
          | nil => exact absurd hl.symm h0
          | cons z zs => rw [List.getLast?_cons_cons] at hd'; exact hd.2 d hd'⟩, rfl, rfl⟩
      have nf : numF (y % 31 :: ds) = numF ds * 31 + 0 + y % 31 := by
        show y % 31 + 31 * numF ds = _
        omega
      rw [nf]
      have s1 : (31 : Int) - 0 = 31 := rfl
      simp only [turn, goS, b_law_address_1, eqD_int, show ¬ ((n' : Nat) : Int) = 0 by omega, decide_false, int1_bl, Bool.false_eq_true, if_false, mulD_ok m31, addD_int, subD_i, s1, dg])
  subst ee eS
  have rl : (rngD 0 (m : Int)).length = m := by rw [rng_map]; simp
  rw [rl] at hl
  have dg := dig (x := y) (m := 31) h (by decide) (by decide)
  have b1 : 0 ≤ y % 31 := Int.emod_nonneg _ (by decide)
  have b2 : y % 31 < 31 := Int.emod_lt_of_pos _ (by decide)
  refine ⟨(y % 31, ds), y / 31, ⟨⟨b1, b2⟩, hd, by simp only; omega, by simp only; omega⟩, hl, ?_⟩
  simp only [F_law_address, runD, b_law_address, go0, goS]
  rw [forR1 (n := m) (by simp only [goS]) (by omega), q]
  simp only [goS, dg]
  exact fin_dg0 h rfl
noncomputable def tx (l : List Nat) : Str := ⟨l.toArray⟩
theorem tx_inj {a b : List Nat} (h : tx a = tx b) : a = b := by
  have : (tx a).cps.toList = (tx b).cps.toList := by rw [h]
  simpa [tx] using this
theorem tx_len (a : List Nat) : (tx a).length = a.length := by simp [tx, Str.length]
theorem tx_app (a b : List Nat) : tx a ++ tx b = tx (a ++ b) := by
  show (⟨a.toArray ++ b.toArray⟩ : Str) = ⟨(a ++ b).toArray⟩
  rw [List.append_toArray]
theorem tx_signs (a : List Nat) : Pu.signs (tx a) = a.map fun c => D.str (tx [c]) := rfl
theorem tx_list (a : List Nat) : (tx a).cps.toList = a := by simp [tx]
theorem tx_cut (a : List Nat) (lo hi : Option Int) : cutS (tx a) lo hi = tx (cutL a lo hi) := by
  unfold cutS cutL
  rw [tx_len, tx_list]
  rfl
theorem tx_join : ∀ ls : List (List Nat), Txt.join (tx []) (ls.map tx) = tx ls.flatten
  | [] => by rw [TL.join_eq]; rfl
  | [x] => by rw [TL.join_eq]; show tx x = _; simp
  | x :: y :: r => by
    have ih := tx_join (y :: r)
    rw [TL.join_eq] at ih ⊢
    show tx x ++ tx [] ++ Str.join (tx []) ((y :: r).map tx) = _
    rw [ih, tx_app, tx_app, List.append_nil]
    rfl
theorem joinFit_tx {ls : List (List Nat)} (h : (ls.map List.length).sum ≤ 16777216) : JoinFit (tx []) (ls.map tx) := by
  unfold JoinFit
  rw [List.map_map, tx_len, List.length_nil, Nat.mul_zero, Nat.add_zero]
  have : (ls.map ((·.length) ∘ tx)) = ls.map List.length := List.map_congr_left fun x _ => tx_len x
  rw [this]
  exact h
theorem joinD_tx {S : Sto} {ls : List (List Nat)} (h : (ls.map List.length).sum ≤ 16777216) : joinD (.str (tx [])) [.lst (ls.map fun l => D.str (tx l))] S = .ok (.str (tx ls.flatten)) S := by
  have := joinD_lst (S := S) (joinFit_tx h)
  rw [List.map_map, tx_join] at this
  exact this
/-- signs of bytes -/
noncomputable def Asc (a : List Nat) : Prop := ∀ c ∈ a, c < 55296
theorem tx_lay {a : List Nat} (h : Asc a) : (PyData.str (tx a)).canLay0 = true := by
  show PyData.strOk (tx a) = true
  unfold PyData.strOk tx
  rw [List.all_toArray, List.all_eq_true]
  intro c hc
  have := h c hc
  exact decide_eq_true (by omega)
theorem tx_cmp {a b : List Nat} (ha : Asc a) (hb : Asc b) (neg : Bool) (S : Sto) : eqD neg (.str (tx a)) (.str (tx b)) S = .ok (.bl (if neg = true then !decide (a = b) else decide (a = b))) S := by
  have hs : ∀ x : Str, (PyData.str x).canLay0 = true → Pu.shp S (.str x) = true := fun x h => by
    show ((PyData.str x).canLay0 && decide ((PyData.str x).depth ≤ 64)) = true
    rw [h]
    rfl
  have h2 : Pu.eqB S (.str (tx a)) (.str (tx b)) = decide (a = b) := by
    show PyData.eqv (PyData.str (tx a)) (PyData.str (tx b)) = _
    by_cases e : a = b
    · simp [PyData.eqv, e]
    · have : ¬ tx a = tx b := fun h => e (tx_inj h)
      simp [PyData.eqv, e, this]
  unfold eqD
  rw [if_pos ⟨hs _ (tx_lay ha), hs _ (tx_lay hb)⟩, h2]
theorem tx_eqF {a b : List Nat} (ha : Asc a) (hb : Asc b) (S : Sto) : eqD false (.str (tx a)) (.str (tx b)) S = .ok (.bl (decide (a = b))) S := tx_cmp ha hb false S
theorem tx_add {a b : List Nat} (S : Sto) (h : a.length + b.length < 1048576) : addD (.str (tx a)) (.str (tx b)) S = .ok (.str (tx (a ++ b))) S := by
  rw [addD_str, tx_len, tx_len, if_pos (Nat.le_of_lt (sz h)), tx_app]
theorem tx_lenD {a : List Nat} (S : Sto) (h : a.length < 1048576) : lenD [.str (tx a)] S = .ok (.int (a.length : Nat)) S := by
  show (if (tx a).length ≤ sizeLine then Res.ok (D.int ((tx a).length : Nat)) S else .bad) = _
  rw [tx_len, if_pos (Nat.le_of_lt (sz h))]
theorem tx_sl {a : List Nat} (S : Sto) (h : a.length < 1048576) (lo hi : Option Int) : slD (.str (tx a)) lo hi S = .ok (.str (tx (cutL a lo hi))) S := by
  show (if (tx a).length ≤ sizeLine then Res.ok (D.str (cutS (tx a) lo hi)) S else .bad) = _
  rw [tx_len, if_pos (Nat.le_of_lt (sz h)), tx_cut]
theorem tx_ix {a : List Nat} (S : Sto) (h : a.length < 1048576) {j : Int} {c : Nat} (hc : atI a j = some c) : ixD (.str (tx a)) (.int j) S = .ok (.str (tx [c])) S := by
  unfold ixD
  simp only [dcOf, tx_len]
  rw [if_pos (Nat.le_of_lt (sz h)), tx_list, hc]
  rfl
theorem s_l : Str.ofString "l" = tx [108] := by decide +kernel
theorem s_s : Str.ofString "s" = tx [115] := by decide +kernel
theorem s_q : Str.ofString "?" = tx [63] := by decide +kernel
theorem s_0 : Str.ofString "" = tx [] := by decide +kernel
theorem s_sl : Str.ofString "sl" = tx [115, 108] := by decide +kernel
theorem asc1 {c : Nat} (h : c < 55296) : Asc [c] := fun d hd => by rw [List.mem_singleton.mp hd]; exact h
theorem isT_str {x : Str} {S : Sto} : isT "str" (.str x) S := by unfold isT; trivial
noncomputable def fv (s : Int) : List Nat := [16, 8, 4, 2, 1].map fun b : Int => if s / b % 2 = 1 then 108 else 115
noncomputable def Bar (c : Nat) : Prop := c = 108 ∨ c = 115 ∨ c = 63
noncomputable def valB : List Nat → Int → Int
  | [], a => a
  | c :: cs, a => valB cs (2 * a + if c = 108 then 1 else 0)
noncomputable def symO (five : List Nat) : Option Int := if 63 ∈ five then none else if valB five 0 < 31 then some (valB five 0) else none
noncomputable def optI : Option Int → D
  | none => .non
  | some i => .int i
theorem fv_len (s : Int) : (fv s).length = 5 := rfl
theorem fv_bar (s : Int) : ∀ c ∈ fv s, c = 108 ∨ c = 115 := fun c hc => by
  unfold fv at hc
  obtain ⟨b, _, rfl⟩ := List.mem_map.mp hc
  split
  · exact .inl rfl
  · exact .inr rfl
theorem fd_pos {S : Sto} (s : Int) {b : Int} (h : b ∈ ([16, 8, 4, 2, 1] : List Int)) : fdivD (.int s) (.int b) S = .ok (.int (s / b)) S := by
  simp only [List.mem_cons, List.not_mem_nil, or_false] at h
  rcases h with rfl | rfl | rfl | rfl | rfl <;> exact fdivD_pos (by decide) (by decide +kernel)
theorem lawbars_is (S : Sto) (s : Int) : F_law_bars [.int s] S = .ok (.str (tx (fv s))) S := by
  have t : ∀ (acc : List Nat) (b : Int), acc.length < 100 → b ∈ ([16, 8, 4, 2, 1] : List Int) → turn [2] (.nm 2) b_law_bars_1 (.int b) [some (.int s), some (.str (tx acc)), none] S = .next [some (.int s), some (.str (tx (acc ++ [if s / b % 2 = 1 then 108 else 115]))), none] S := fun acc b ha h => by
    have m2 : modD (.int (s / b)) (.int 2) S = .ok (.int (s / b % 2)) S := modD_pos (by decide)
    have h2 : s / b % 2 = 0 ∨ s / b % 2 = 1 := by omega
    rcases h2 with hb | hb
    · have x : ixD (.str (tx [115, 108])) (.int 0) S = .ok (.str (tx [115])) S := tx_ix S (by simp) rfl
      simp only [turn, b_law_bars_1, goS, fd_pos s h, m2, hb, s_sl, x, tx_add S (show acc.length + [115].length < 1048576 by simp; omega), show ¬ (0 : Int) = 1 by decide, if_false]
    · have x : ixD (.str (tx [115, 108])) (.int 1) S = .ok (.str (tx [108])) S := tx_ix S (by simp) rfl
      simp only [turn, b_law_bars_1, goS, fd_pos s h, m2, hb, s_sl, x, tx_add S (show acc.length + [108].length < 1048576 by simp; omega), if_true]
  simp only [F_law_bars, runD, b_law_bars, go0, goS, s_0]
  rw [forS_tup (xs := [.int 16, .int 8, .int 4, .int 2, .int 1]) rfl, forD_cons (src := .tmp _) trivial, t [] 16 (by simp) (by simp)]
  simp only
  rw [forD_cons (src := .tmp _) trivial, t _ 8 (by simp) (by simp)]
  simp only
  rw [forD_cons (src := .tmp _) trivial, t _ 4 (by simp) (by simp)]
  simp only
  rw [forD_cons (src := .tmp _) trivial, t _ 2 (by simp) (by simp)]
  simp only
  rw [forD_cons (src := .tmp _) trivial, t _ 1 (by simp) (by simp)]
  simp only
  rw [forD_nil (src := .tmp _) trivial]
  simp only [goS]
  exact fin_same rfl
theorem Bar.lt {c : Nat} (h : Bar c) : c < 55296 := by
  rcases h with rfl | rfl | rfl <;> decide
theorem symbol_in (S : Sto) (five : List Nat) (h : ∀ c ∈ five, Bar c) : Fsymbol_in [.str (tx five)] S = .ok (optI (symO five)) S := by
  have lp : ∀ (cs : List Nat) (acc : Int) (ys : List D), (∀ c ∈ cs, Bar c) → forD [2] (.nm 2) (.tmp ys) bsymbol_in_1 (cs.map fun c => D.str (tx [c])) [some (.str (tx five)), some (.int acc), none] S =
      if 63 ∈ cs then .ret .non S else .next [some (.str (tx five)), some (.int (valB cs acc)), none] S := by
    intro cs
    induction cs with
    | nil => intro acc ys _; rw [if_neg List.not_mem_nil]; exact forD_nil trivial
    | cons c cs ih =>
      intro acc ys hb
      have hc := hb c List.mem_cons_self
      have e1 : eqD false (.str (tx [c])) (.str (tx [63])) S = .ok (.bl (decide (c = 63))) S := by
        rw [tx_eqF (asc1 hc.lt) (asc1 (by decide))]
        simp
      have e2' : eqD false (.str (tx [c])) (.str (tx [108])) S = .ok (.bl (decide (c = 108))) S := by
        rw [tx_eqF (asc1 hc.lt) (asc1 (by decide))]
        simp
      have fm : FitMul 2 acc := .left (by decide) (by decide)
      rw [List.map_cons, forD_cons (src := .tmp _) trivial]
      by_cases h6 : c = 63
      · have t : turn [2] (.nm 2) bsymbol_in_1 (.str (tx [c])) [some (.str (tx five)), some (.int acc), none] S = .ret .non S := by
          have p6 := decide_eq_true h6
          simp only [turn, bsymbol_in_1, goS, s_q, e1, p6, if_true]
        rw [t, if_pos (by rw [h6]; exact List.mem_cons_self)]
      · have t : turn [2] (.nm 2) bsymbol_in_1 (.str (tx [c])) [some (.str (tx five)), some (.int acc), none] S = .next [some (.str (tx five)), some (.int (2 * acc + if c = 108 then 1 else 0)), none] S := by
          have p6 := decide_eq_false h6
          by_cases h8 : c = 108
          · have p8 := decide_eq_true h8
            rw [if_pos h8]
            simp only [turn, bsymbol_in_1, goS, s_q, s_l, e1, e2', p6, p8, Bool.false_eq_true, if_false, if_true, mulD_ok fm, int1_bl, addD_int]
          · have p8 := decide_eq_false h8
            rw [if_neg h8]
            simp only [turn, bsymbol_in_1, goS, s_q, s_l, e1, e2', p6, p8, Bool.false_eq_true, if_false, mulD_ok fm, int1_bl, addD_int]
        rw [t]
        simp only
        rw [ih _ ys fun d hd => hb d (List.mem_cons_of_mem _ hd)]
        have : (63 ∈ c :: cs) ↔ 63 ∈ cs := by
          rw [List.mem_cons]
          exact ⟨fun z => z.resolve_left fun e => h6 e.symm, .inr⟩
        by_cases hm : 63 ∈ cs
        · rw [if_pos hm, if_pos (this.mpr hm)]
        · rw [if_neg hm, if_neg fun z => hm (this.mp z)]
          rfl
  have q := lp five 0 (five.map fun c => D.str (tx [c])) h
  simp only [Fsymbol_in, runD, bsymbol_in, go0, goS]
  rw [forTx (x := tx five) rfl, tx_signs, q]
  unfold symO
  by_cases hm : 63 ∈ five
  · rw [if_pos hm, if_pos hm]
    simp only [goS]
    exact fin_same rfl
  · rw [if_neg hm, if_neg hm]
    by_cases hv : valB five 0 < 31
    · simp only [goS, ltD_i, hv, decide_true, if_true]
      exact fin_same rfl
    · simp only [goS, ltD_i, hv, decide_false, Bool.false_eq_true, if_false]
      exact fin_same rfl
theorem cop31 : ∀ b < 31, 0 < b → Nat.gcd 31 b = 1 := by decide
theorem dvd31 {a b : Int} (h : (31 : Int) ∣ a * b) (h0 : b ≠ 0) (h1 : b.natAbs < 31) : (31 : Int) ∣ a := by
  have h2 : (31 : Int).natAbs ∣ (a * b).natAbs := Int.natAbs_dvd_natAbs.mpr h
  rw [Int.natAbs_mul] at h2
  have h3 : Nat.Coprime 31 b.natAbs := cop31 _ h1 (by omega)
  have h4 : 31 ∣ a.natAbs := Nat.Coprime.dvd_of_dvd_mul_right h3 h2
  omega
structure Zs (xs : List Int) : Prop where
  z0 : w0 xs % 31 = 0
  z1 : w1 xs % 31 = 0
  z2 : w2 xs % 31 = 0
noncomputable def Rg (xs : List Int) : Prop := ∀ x ∈ xs, 0 ≤ x ∧ x < 31
theorem Rg.at {xs : List Int} (h : Rg xs) {i : Nat} (hi : i < xs.length) : 0 ≤ xs[i] ∧ xs[i] < 31 := h _ (List.getElem_mem hi)
theorem set_getD {xs ys : List Int} {i j k : Nat} (hl : xs.length = ys.length) (h : ∀ m, m ≠ i → m ≠ j → m ≠ k → xs[m]? = ys[m]?) : ys = ((xs.set i (ys[i]?.getD 0)).set j (ys[j]?.getD 0)).set k (ys[k]?.getD 0) := by
  apply List.ext_getElem?
  intro m
  rw [List.getElem?_set, List.getElem?_set, List.getElem?_set]
  simp only [List.length_set]
  by_cases hm : m < ys.length
  · by_cases e1 : k = m
    · subst e1
      rw [if_pos rfl, if_pos (by omega), List.getElem?_eq_getElem hm]
      rfl
    · rw [if_neg e1]
      by_cases e2 : j = m
      · subst e2
        rw [if_pos rfl, if_pos (by omega), List.getElem?_eq_getElem hm]
        rfl
      · rw [if_neg e2]
        by_cases e3 : i = m
        · subst e3
          rw [if_pos rfl, if_pos (by omega), List.getElem?_eq_getElem hm]
          rfl
        · rw [if_neg e3]
          exact (h m (fun e => e3 e.symm) (fun e => e2 e.symm) fun e => e1 e.symm).symm
  · rw [List.getElem?_eq_none (by omega)]
    split
    · split
      · omega
      · rfl
    · split
      · split
        · omega
        · rfl
      · split
        · split
          · omega
          · rfl
        · rw [List.getElem?_eq_none (by omega)]
theorem lag_a (x y z p q r : Int) : (x * (p * p) + y * (q * q) + z * (r * r)) - (q + r) * (x * p + y * q + z * r) + q * r * (x * 1 + y * 1 + z * 1) = x * (p - q) * (p - r) := by grind
theorem uniq3 {xs ys : List Int} (hn : xs.length ≤ 30) (hl : xs.length = ys.length) (hx : Rg xs) (hy : Rg ys) (zx : Zs xs) (zy : Zs ys) {i j k : Nat} (hi : i < xs.length) (hj : j < xs.length) (hk : k < xs.length) (h1 : i ≠ j) (h2 : j ≠ k) (h3 : i ≠ k) (h : ∀ m, m ≠ i → m ≠ j → m ≠ k → xs[m]? = ys[m]?) : xs = ys := by
  have e := set_getD hl h
  rw [List.getElem?_eq_getElem (by omega : i < ys.length), List.getElem?_eq_getElem (by omega : j < ys.length), List.getElem?_eq_getElem (by omega : k < ys.length)] at e
  simp only [Option.getD_some] at e
  have sets : ∀ (f : Int → Int) (x y z : Int), wsum f 1 (((xs.set i x).set j y).set k z) = wsum f 1 xs + (x - xs[i]) * f (1 + i) + (y - xs[j]) * f (1 + j) + (z - xs[k]) * f (1 + k) := fun f x y z => by
    rw [wsum_set f _ _ _ _ (by simpa using hk), wsum_set f _ _ _ _ (by simpa using hj), wsum_set f _ _ _ _ hi]
    rw [List.getElem_set_ne h2, List.getElem_set_ne h1, List.getElem_set_ne h3]
  have ri := hx.at hi
  have rj := hx.at hj
  have rk := hx.at hk
  have ri' := hy.at (show i < ys.length by omega)
  have rj' := hy.at (show j < ys.length by omega)
  have rk' := hy.at (show k < ys.length by omega)
  have g : ∀ f : Int → Int, wsum f 1 xs % 31 = 0 → wsum f 1 ys % 31 = 0 → ∃ q : Int, (ys[i] - xs[i]) * f (1 + i) + (ys[j] - xs[j]) * f (1 + j) + (ys[k] - xs[k]) * f (1 + k) = 31 * q := fun f a b => by
    have s := sets f ys[i] ys[j] ys[k]
    rw [← e] at s
    refine ⟨(wsum f 1 ys) / 31 - (wsum f 1 xs) / 31, ?_⟩
    omega
  obtain ⟨q0, g0⟩ := g (fun _ => 1) zx.z0 zy.z0
  obtain ⟨q1, g1⟩ := g (fun p => p) zx.z1 zy.z1
  obtain ⟨q2, g2⟩ := g (fun p => p * p) zx.z2 zy.z2
  have zero : ∀ (a p q r : Int) (s0 s1 s2 : Int), a * (p - q) * (p - r) = 31 * s2 - (q + r) * (31 * s1) + q * r * (31 * s0) → p ≠ q → p ≠ r → (p - q).natAbs < 31 → (p - r).natAbs < 31 → -31 < a → a < 31 → a = 0 := fun a p q r s0 s1 s2 hh n1 n2 b1 b2 c1 c2 => by
    have d : (31 : Int) ∣ a * (p - q) * (p - r) := ⟨s2 - (q + r) * s1 + q * r * s0, by rw [hh]; grind⟩
    have d2 := dvd31 (dvd31 d (by omega) b2) (by omega) b1
    omega
  have di : ys[i] - xs[i] = 0 := zero _ (1 + i) (1 + j) (1 + k) q0 q1 q2 (by rw [← g0, ← g1, ← g2]; exact (lag_a _ _ _ _ _ _).symm) (by omega) (by omega) (by omega) (by omega) (by omega) (by omega)
  have dj : ys[j] - xs[j] = 0 := zero _ (1 + j) (1 + i) (1 + k) q0 q1 q2 (by
    rw [← g0, ← g1, ← g2, ← lag_a (ys[j] - xs[j]) (ys[i] - xs[i]) (ys[k] - xs[k]) (1 + j) (1 + i) (1 + k)]
    generalize ys[i] - xs[i] = x
    generalize ys[j] - xs[j] = y
    generalize ys[k] - xs[k] = z
    grind) (by omega) (by omega) (by omega) (by omega) (by omega) (by omega)
  have dk : ys[k] - xs[k] = 0 := zero _ (1 + k) (1 + i) (1 + j) q0 q1 q2 (by
    rw [← g0, ← g1, ← g2, ← lag_a (ys[k] - xs[k]) (ys[i] - xs[i]) (ys[j] - xs[j]) (1 + k) (1 + i) (1 + j)]
    generalize ys[i] - xs[i] = x
    generalize ys[j] - xs[j] = y
    generalize ys[k] - xs[k] = z
    grind) (by omega) (by omega) (by omega) (by omega) (by omega) (by omega)
  rw [e, show ys[i] = xs[i] by omega, show ys[j] = xs[j] by omega, show ys[k] = xs[k] by omega]
  rw [List.set_getElem_self, List.set_getElem_self, List.set_getElem_self]
theorem uniqL {xs ys : List Int} (hn : xs.length ≤ 30) (hl : xs.length = ys.length) (hx : Rg xs) (hy : Rg ys) (zx : Zs xs) (zy : Zs ys) {free : List Nat} (hf : free.length ≤ 3) (h5 : 5 ≤ xs.length) (h : ∀ m, m ∉ free → xs[m]? = ys[m]?) : xs = ys := by
  -- three places that hold free
  have ex : ∀ i j k : Nat, (∀ m ∈ free, m < xs.length → m = i ∨ m = j ∨ m = k) → i < xs.length → j < xs.length → k < xs.length → i ≠ j → j ≠ k → i ≠ k → xs = ys := fun i j k hm a b c d e f => uniq3 hn hl hx hy zx zy a b c d e f fun m n1 n2 n3 => by
    by_cases hmn : m ∈ free
    · by_cases hl2 : m < xs.length
      · rcases hm m hmn hl2 with r | r | r
        · exact absurd r n1
        · exact absurd r n2
        · exact absurd r n3
      · rw [List.getElem?_eq_none (by omega), List.getElem?_eq_none (by omega)]
    · exact h m hmn
  have two : ∀ a b : Nat, ∃ i j k : Nat, (∀ m, m < xs.length → (m = a ∨ m = b) → m = i ∨ m = j ∨ m = k) ∧ i < xs.length ∧ j < xs.length ∧ k < xs.length ∧ i ≠ j ∧ j ≠ k ∧ i ≠ k := fun a b => by
    by_cases ha : a < xs.length
    · by_cases hb : b < xs.length
      · by_cases hab : a = b
        · subst hab
          by_cases h0 : a = 0
          · exact ⟨0, 1, 2, fun m _ q => by omega, by omega, by omega, by omega, by omega, by omega, by omega⟩
          · by_cases h1' : a = 1
            · exact ⟨0, 1, 2, fun m _ q => by omega, by omega, by omega, by omega, by omega, by omega, by omega⟩
            · exact ⟨0, 1, a, fun m _ q => by omega, by omega, by omega, by omega, by omega, by omega, by omega⟩
        · -- a third
          have : ∃ c, c < xs.length ∧ c ≠ a ∧ c ≠ b := by
            by_cases c0 : 0 ≠ a ∧ 0 ≠ b
            · exact ⟨0, by omega, c0.1, c0.2⟩
            · by_cases c1 : 1 ≠ a ∧ 1 ≠ b
              · exact ⟨1, by omega, c1.1, c1.2⟩
              · exact ⟨2, by omega, by omega, by omega⟩
          obtain ⟨c, hc, n1, n2⟩ := this
          exact ⟨a, b, c, fun m _ q => by omega, ha, hb, hc, hab, fun e => n2 e.symm, fun e => n1 e.symm⟩
      · by_cases h0 : a ≤ 2
        · exact ⟨0, 1, 2, fun m _ q => by omega, by omega, by omega, by omega, by omega, by omega, by omega⟩
        · exact ⟨0, 1, a, fun m _ q => by omega, by omega, by omega, by omega, by omega, by omega, by omega⟩
    · by_cases hb : b < xs.length
      · by_cases h0 : b ≤ 2
        · exact ⟨0, 1, 2, fun m _ q => by omega, by omega, by omega, by omega, by omega, by omega, by omega⟩
        · exact ⟨0, 1, b, fun m _ q => by omega, by omega, by omega, by omega, by omega, by omega, by omega⟩
      · exact ⟨0, 1, 2, fun m _ q => by omega, by omega, by omega, by omega, by omega, by omega, by omega⟩
  match free, hf, ex with
  | [], _, ex => exact ex 0 1 2 (fun m hm _ => absurd hm List.not_mem_nil) (by omega) (by omega) (by omega) (by omega) (by omega) (by omega)
  | [a], _, ex =>
    obtain ⟨i, j, k, q, b1, b2, b3, c1, c2, c3⟩ := two a a
    exact ex i j k (fun m hm hl => q m hl (.inl (List.mem_singleton.mp hm))) b1 b2 b3 c1 c2 c3
  | [a, b], _, ex =>
    obtain ⟨i, j, k, q, b1, b2, b3, c1, c2, c3⟩ := two a b
    refine ex i j k (fun m hm hl => q m hl ?_) b1 b2 b3 c1 c2 c3
    simpa using hm
  | [a, b, c], _, ex =>
    have red : ∀ a b c : Nat, (∀ m, m ∈ [a, b, c] → m < xs.length → ∀ i j k : Nat, (m = a ∨ m = b) → (∀ n, n < xs.length → (n = a ∨ n = b) → n = i ∨ n = j ∨ n = k) → m = i ∨ m = j ∨ m = k) := fun a b c m _ hl i j k q h => h m hl q
    by_cases hc : c < xs.length ∧ c ≠ a ∧ c ≠ b
    · by_cases ha : a < xs.length
      · by_cases hb : b < xs.length ∧ a ≠ b
        · exact ex a b c (fun m hm _ => by simpa using hm) ha hb.1 hc.1 hb.2 (fun e => hc.2.2 e.symm) fun e => hc.2.1 e.symm
        · obtain ⟨i, j, k, q, b1, b2, b3, c1, c2, c3⟩ := two a c
          refine ex i j k (fun m hm hl => q m hl ?_) b1 b2 b3 c1 c2 c3
          simp only [List.mem_cons, List.not_mem_nil, or_false] at hm
          omega
      · obtain ⟨i, j, k, q, b1, b2, b3, c1, c2, c3⟩ := two b c
        refine ex i j k (fun m hm hl => q m hl ?_) b1 b2 b3 c1 c2 c3
        simp only [List.mem_cons, List.not_mem_nil, or_false] at hm
        omega
    · obtain ⟨i, j, k, q, b1, b2, b3, c1, c2, c3⟩ := two a b
      refine ex i j k (fun m hm hl => q m hl ?_) b1 b2 b3 c1 c2 c3
      simp only [List.mem_cons, List.not_mem_nil, or_false] at hm
      omega
  | _ :: _ :: _ :: _ :: _, hf, _ => exact absurd hf (by simp)
theorem nodup_lenG {α : Type} [DecidableEq α] : ∀ {xs ys : List α}, xs.Nodup → (∀ x ∈ xs, x ∈ ys) → xs.length ≤ ys.length
  | [], _, _, _ => Nat.zero_le _
  | x :: xs, ys, hn, h => by
    rw [List.nodup_cons] at hn
    have ih := nodup_lenG (xs := xs) (ys := ys.erase x) hn.2 fun z hz => (List.mem_erase_of_ne (fun e => hn.1 (by rw [← e]; exact hz))).mpr (h z (List.mem_cons_of_mem _ hz))
    have hm := h x List.mem_cons_self
    rw [List.length_erase_of_mem hm] at ih
    have : 0 < ys.length := List.length_pos_of_mem hm
    rw [List.length_cons]
    omega
noncomputable def others (n : Nat) (free : List Nat) : List Nat := (List.range n).filter fun i => decide (i ∉ free)
theorem mem_others {n : Nat} {free : List Nat} {i : Nat} : i ∈ others n free ↔ i < n ∧ i ∉ free := by
  unfold others
  rw [List.mem_filter, List.mem_range, decide_eq_true_eq]
theorem others_nodup (n : Nat) (free : List Nat) : (others n free).Nodup := List.Pairwise.filter _ List.nodup_range
noncomputable def pl3 (n : Nat) (free : List Nat) : List Nat := free ++ (others n free).take (3 - free.length)
theorem pl3_nodup {n : Nat} {free : List Nat} (hn : free.Nodup) : (pl3 n free).Nodup := by
  unfold pl3
  rw [List.nodup_append]
  refine ⟨hn, (others_nodup n free).sublist (List.take_sublist _ _), fun a ha b hb e => ?_⟩
  subst e
  exact (mem_others.mp (List.mem_of_mem_take hb)).2 ha
theorem pl3_is {n : Nat} {free : List Nat} (h5 : 5 ≤ n) (hf : free.length ≤ 3) (hn : free.Nodup) (hr : ∀ i ∈ free, i < n) : ∃ i j k : Nat, pl3 n free = [i, j, k] ∧ i < n ∧ j < n ∧ k < n ∧ i ≠ j ∧ j ≠ k ∧ i ≠ k := by
  have hd := pl3_nodup (n := n) hn
  have hm : ∀ i ∈ pl3 n free, i < n := fun i hi => by
    rcases List.mem_append.mp hi with h | h
    · exact hr i h
    · exact (mem_others.mp (List.mem_of_mem_take h)).1
  have hl : (pl3 n free).length = 3 := by
    have h1 : (List.range n).length ≤ (free ++ others n free).length := nodup_lenG List.nodup_range fun i hi => by
      by_cases h : i ∈ free
      · exact List.mem_append_left _ h
      · exact List.mem_append_right _ (mem_others.mpr ⟨List.mem_range.mp hi, h⟩)
    rw [List.length_range, List.length_append] at h1
    unfold pl3
    rw [List.length_append, List.length_take]
    omega
  generalize pl3 n free = ps at *
  match ps, hl with
  | [i, j, k], _ =>
    simp only [List.nodup_cons, List.mem_cons, List.not_mem_nil, or_false, not_or] at hd
    exact ⟨i, j, k, rfl, hm i (by simp), hm j (by simp), hm k (by simp), hd.1.1, hd.2.1, hd.1.2⟩
noncomputable def mendO (xs : List Int) (free : List Nat) : Option (List Int) := match pl3 xs.length free with
  | [i, j, k] => if ((pl3 xs.length free).drop free.length).all (fun p => decide ((fil3 xs i j k)[p]?.getD 0 = xs[p]?.getD 0)) = true then some (fil3 xs i j k) else none
  | _ => none
theorem fil3_out (xs : List Int) {i j k m : Nat} (h1 : m ≠ i) (h2 : m ≠ j) (h3 : m ≠ k) : (fil3 xs i j k)[m]? = xs[m]? := by
  unfold fil3
  simp only
  rw [List.getElem?_set_ne (fun e => h3 e.symm), List.getElem?_set_ne (fun e => h2 e.symm), List.getElem?_set_ne (fun e => h1 e.symm)]
structure Wd (xs : List Int) : Prop where
  lo : 5 ≤ xs.length
  hi : xs.length ≤ 30
  rg : Rg xs
structure Fr (n : Nat) (free : List Nat) : Prop where
  l3 : free.length ≤ 3
  nd : free.Nodup
  lt : ∀ i ∈ free, i < n
theorem eq_of_getD {xs ys : List Int} (hl : xs.length = ys.length) {p : Nat} (h : xs[p]?.getD 0 = ys[p]?.getD 0) : xs[p]? = ys[p]? := by
  by_cases hp : p < xs.length
  · rw [List.getElem?_eq_getElem hp, List.getElem?_eq_getElem (by omega : p < ys.length)] at h ⊢
    simpa using h
  · rw [List.getElem?_eq_none (by omega), List.getElem?_eq_none (by omega)]
theorem mend_some {xs : List Int} (hx : Wd xs) {free : List Nat} (hf : Fr xs.length free) {t : List Int} (h : mendO xs free = some t) : t.length = xs.length ∧ Rg t ∧ Zs t ∧ ∀ m, m ∉ free → t[m]? = xs[m]? := by
  obtain ⟨i, j, k, e, a, b, c, n1, n2, n3⟩ := pl3_is hx.lo hf.l3 hf.nd hf.lt
  unfold mendO at h
  rw [e] at h
  simp only at h
  split at h
  · rename_i hc
    cases h
    obtain ⟨z0, z1, z2⟩ := fil3_sums hx.hi a b c n1 n2 n3
    refine ⟨fil3_len _ _ _ _, fil3_rng i j k hx.rg, ⟨z0, z1, z2⟩, fun m hm => ?_⟩
    by_cases hp : m ∈ pl3 xs.length free
    · have hd : m ∈ (pl3 xs.length free).drop free.length := by
        unfold pl3 at hp ⊢
        rw [List.drop_left]
        rcases List.mem_append.mp hp with q | q
        · exact absurd q hm
        · exact q
      rw [e] at hd
      have := of_decide_eq_true (List.all_eq_true.mp hc m hd)
      exact eq_of_getD (fil3_len _ _ _ _) this
    · rw [e] at hp
      simp only [List.mem_cons, List.not_mem_nil, or_false, not_or] at hp
      exact fil3_out xs hp.1 hp.2.1 hp.2.2
  · cases h
theorem mend_of {xs : List Int} (hx : Wd xs) {free : List Nat} (hf : Fr xs.length free) {t : List Int} (hl : t.length = xs.length) (hr : Rg t) (hz : Zs t) (ha : ∀ m, m ∉ free → t[m]? = xs[m]?) : mendO xs free = some t := by
  obtain ⟨i, j, k, e, a, b, c, n1, n2, n3⟩ := pl3_is hx.lo hf.l3 hf.nd hf.lt
  obtain ⟨z0, z1, z2⟩ := fil3_sums hx.hi a b c n1 n2 n3
  have sub : ∀ m ∈ free, m ∈ [i, j, k] := fun m hm => by
    rw [← e]
    exact List.mem_append_left _ hm
  have et : fil3 xs i j k = t := uniqL (by rw [fil3_len]; exact hx.hi) (by rw [fil3_len, hl]) (fil3_rng i j k hx.rg) hr ⟨z0, z1, z2⟩ hz (free := [i, j, k]) (by simp) (by rw [fil3_len]; exact hx.lo) fun m hm => by
    rw [ha m fun q => hm (sub m q)]
    simp only [List.mem_cons, List.not_mem_nil, or_false, not_or] at hm
    exact fil3_out xs hm.1 hm.2.1 hm.2.2
  unfold mendO
  rw [e]
  simp only
  rw [et, if_pos]
  refine List.all_eq_true.mpr fun p hp => decide_eq_true ?_
  have hp : p ∈ (pl3 xs.length free).drop free.length := by rw [e]; exact hp
  have hq : p ∉ free := fun q => by
    unfold pl3 at hp
    rw [List.drop_left] at hp
    exact (mem_others.mp (List.mem_of_mem_take hp)).2 q
  rw [ha p hq]
noncomputable def susp (lost : List Nat) (n : Nat) : List (List Nat) := if 1 < lost.length then [lost] else lost :: (others n lost).map fun p => lost ++ [p]
theorem susp_fr {lost : List Nat} {n : Nat} (h3 : lost.length ≤ 3) (hn : lost.Nodup) (hl : ∀ i ∈ lost, i < n) : ∀ free ∈ susp lost n, Fr n free ∧ (∀ i ∈ lost, i ∈ free) := fun free hf => by
  have h0 : Fr n lost := ⟨h3, hn, hl⟩
  unfold susp at hf
  split at hf
  · rw [List.mem_singleton] at hf
    subst hf
    exact ⟨h0, fun i h => h⟩
  · rcases List.mem_cons.mp hf with rfl | hf
    · exact ⟨h0, fun i h => h⟩
    · obtain ⟨p, hp, rfl⟩ := List.mem_map.mp hf
      obtain ⟨p1, p2⟩ := mem_others.mp hp
      refine ⟨⟨by rw [List.length_append, List.length_singleton]; omega, ?_, fun i hi => ?_⟩, fun i h => List.mem_append_left _ h⟩
      · rw [List.nodup_append]
        exact ⟨hn, by simp, fun a ha b hb e => by rw [List.mem_singleton] at hb; subst hb e; exact p2 ha⟩
      · rcases List.mem_append.mp hi with hi | hi
        · exact hl i hi
        · rw [List.mem_singleton] at hi
          subst hi
          exact p1
noncomputable def lostL (ss : List (Option Int)) : List Nat := (List.range ss.length).filter fun i => decide (ss[i]? = some none)
theorem mem_lost {ss : List (Option Int)} {i : Nat} : i ∈ lostL ss ↔ ss[i]? = some none := by
  unfold lostL
  rw [List.mem_filter, List.mem_range, decide_eq_true_eq]
  refine ⟨fun h => h.2, fun h => ⟨(List.getElem?_eq_some_iff.mp h).1, h⟩⟩
theorem lost_nodup (ss : List (Option Int)) : (lostL ss).Nodup := List.Pairwise.filter _ List.nodup_range
noncomputable def plainL (ss : List (Option Int)) : List Int := ss.map fun s => s.getD 0
noncomputable def adO (t : List Int) : Option (Int × Int) := if ((t.drop 1).take (t.length - 4)).getLast?.getD 0 = 0 then none else some (t[0]?.getD 0, numF ((t.drop 1).take (t.length - 4)))
noncomputable def findO (ss : List (Option Int)) : Option (List Int) := if 3 < (lostL ss).length then none else (susp (lostL ss) ss.length).findSome? (mendO (plainL ss))
noncomputable def readO (ss : List (Option Int)) : Option (Int × Int) := (findO ss).bind adO
noncomputable def RgO (ss : List (Option Int)) : Prop := ∀ s ∈ ss, ∀ x, s = some x → 0 ≤ x ∧ x < 31
theorem plain_wd {ss : List (Option Int)} (h1 : 5 ≤ ss.length) (h2 : ss.length ≤ 30) (hr : RgO ss) : Wd (plainL ss) := by
  refine ⟨by rw [plainL, List.length_map]; exact h1, by rw [plainL, List.length_map]; exact h2, fun x hx => ?_⟩
  obtain ⟨s, hs, rfl⟩ := List.mem_map.mp hx
  cases s with
  | none => exact ⟨Int.le_refl _, by decide⟩
  | some y => exact hr _ hs y rfl
noncomputable def pD (i : Nat) : D := .int ((i : Int) + 1)
theorem rng1_map (n : Nat) : rngD 1 ((n : Int) + 1) = (List.range n).map pD := by
  unfold rngD
  rw [show ((n : Int) + 1 - 1).toNat = n by omega]
  refine List.map_congr_left fun i _ => ?_
  unfold pD
  rw [Int.add_comm]
theorem in_pD (free : List Nat) (i : Nat) (S : Sto) (neg : Bool) : inD neg (pD i) (.lst (free.map pD)) S = .ok (.bl (if neg = true then !decide (i ∈ free) else decide (i ∈ free))) S := by
  have e : free.map pD = (free.map fun i : Nat => (i : Int) + 1).map D.int := by rw [List.map_map]; rfl
  have hsh : SeqAt.shaped (.list (pys ((free.map fun i : Nat => (i : Int) + 1).map D.int))) = true := by
    have := (Rp.int.ls).shp (by decide) (free.map fun i : Nat => (i : Int) + 1) S
    exact this
  have ha : ((pys ((free.map fun i : Nat => (i : Int) + 1).map D.int)).any fun z => PyData.eqv z (D.int ((i : Int) + 1)).py) = decide (i ∈ free) := by
    rw [pys_eq, List.any_map, List.any_map, List.any_map, Bool.eq_iff_iff, List.any_eq_true, decide_eq_true_eq]
    constructor
    · rintro ⟨j, hj, hz⟩
      have h2 : (j : Int) + 1 = (i : Int) + 1 := (Rp.int.eqv _ _).mp hz
      have : j = i := by omega
      rw [← this]; exact hj
    · intro hi
      exact ⟨i, hi, (Rp.int.eqv _ _).mpr rfl⟩
  unfold inD
  simp only [dcOf, lsOf_lst]
  rw [e]
  unfold pD
  rw [if_pos ⟨rfl, hsh⟩, ha]
theorem others_eq (n : Nat) (free : List Nat) : others n free = (List.range n).filter fun i => !decide (i ∈ free) := by
  unfold others
  refine List.filter_congr fun i _ => ?_
  simp
theorem three_is (S : Sto) (free : List Nat) (n : Nat) (hn : n < 1000) (hf : free.length ≤ 3) : Fthree_places [.lst (free.map pD), .int (n : Nat)] S = .ok (.lst ((pl3 n free).map pD)) S := by
  have lc : lcD (.nm 3) (.tmp (rngD 1 ((n : Int) + 1))) (eTB (e2 (inD true) (eVar 3) (eVar 0))) (eVar 3) [some (.lst (free.map pD)), some (.int (n : Nat)), none, none] (rngD 1 ((n : Int) + 1)) S = .ok ((others n free).map pD) S := by
    rw [rng1_map, others_eq]
    exact lc_map (tg := .nm 3) (t := eTB (e2 (inD true) (eVar 3) (eVar 0))) (f := eVar 3) (e := [some (.lst (free.map pD)), some (.int (n : Nat)), none, none]) (S := S) (ys := (List.range n).map pD) pD (fun i => !decide (i ∈ free)) pD (List.range n) fun i _ => ⟨[some (.lst (free.map pD)), some (.int (n : Nat)), none, some (pD i)], rfl, by simp only [goS, in_pD, if_true], fun _ => by simp only [goS]⟩
  have n1 := nLcR2 (vs := [3]) (tg := .nm 3) (f := eC (.int 1)) (g := e2 addD (eVar 1) (eC (.int 1))) (u := eVar 3) (e := [some (.lst (free.map pD)), some (.int (n : Nat)), none, none]) (S := S) (i := 1) (j := (n : Int) + 1) rfl (by simp only [goS, addD_int]) (by decide) (by decide) (by omega) (by omega) (by omega) lc
  have ln : lenD [.lst (free.map pD)] S = .ok (.int (free.length : Nat)) S := by rw [lenD_lst, List.length_map]
  have sb : subD (.int 3) (.int (free.length : Nat)) S = .ok (.int ((3 - free.length : Nat) : Int)) S := by
    rw [subD_i, show (3 : Int) - (free.length : Nat) = ((3 - free.length : Nat) : Int) by omega]
  have sl : slD (.lst ((others n free).map pD)) none (some ((3 - free.length : Nat) : Int)) S = .ok (.lst (((others n free).take (3 - free.length)).map pD)) S := by
    show Res.ok (D.lst (cutL _ _ _)) S = _
    rw [cut_to, List.map_take]
  have ad : addD (.lst (free.map pD)) (.lst (((others n free).take (3 - free.length)).map pD)) S = .ok (.lst ((pl3 n free).map pD)) S := by
    rw [addL (by rw [List.length_map, List.length_map, List.length_take]; omega)]
    unfold pl3
    rw [List.map_append]
  simp only [Fthree_places, runD, bthree_places, go0, goS, n1, ln, sb, sl, ad]
  exact fin_same (gnds_map (fun _ => rfl) _)
noncomputable def optL : Option (List Int) → D
  | none => .non
  | some t => .lst (t.map D.int)
theorem mended_is (S : Sto) (xs : List Int) (free : List Nat) (hx : Wd xs) (hf : Fr xs.length free) : Fmended [.lst (xs.map D.int), .lst (free.map pD)] S = .ok (optL (mendO xs free)) S := by
  obtain ⟨i, j, k, e, a, b, c, n1, n2, n3⟩ := pl3_is hx.lo hf.l3 hf.nd hf.lt
  have hi := hx.hi
  have th := three_is S free xs.length (by omega) hf.l3
  have fl := filled_is S xs i j k (by omega) hx.rg a b c n1 n2 n3
  have ln : lenD [.lst (xs.map D.int)] S = .ok (.int (xs.length : Nat)) S := by rw [lenD_lst, List.length_map]
  have lnf : lenD [.lst (free.map pD)] S = .ok (.int (free.length : Nat)) S := by rw [lenD_lst, List.length_map]
  have sl : slD (.lst ((pl3 xs.length free).map pD)) (some (free.length : Int)) none S = .ok (.lst (((pl3 xs.length free).drop free.length).map pD)) S := by
    show Res.ok (D.lst (cutL _ _ _)) S = _
    rw [cut_from, List.map_drop]
  have hr : ∀ p ∈ (pl3 xs.length free).drop free.length, p < xs.length := fun p hp => by
    have := List.mem_of_mem_drop hp
    rw [e] at this
    simp only [List.mem_cons, List.not_mem_nil, or_false] at this
    omega
  have hm : mendO xs free = if ((pl3 xs.length free).drop free.length).all (fun p => decide ((fil3 xs i j k)[p]?.getD 0 = xs[p]?.getD 0)) = true then some (fil3 xs i j k) else none := by
    unfold mendO
    rw [e]
  have hP : (pl3 xs.length free).map pD = [.int ((i : Int) + 1), .int ((j : Int) + 1), .int ((k : Int) + 1)] := by rw [e]; rfl
  rw [← hP] at fl
  generalize hF : fil3 xs i j k = F at *
  have hFl : F.length = xs.length := by rw [← hF]; exact fil3_len _ _ _ _
  generalize hps : (pl3 xs.length free).drop free.length = ps at *
  let E : En := [some (.lst (xs.map D.int)), some (.lst (free.map pD)), some (.lst ((pl3 xs.length free).map pD)), some (.lst (F.map D.int)), none]
  have lp : ∀ (qs : List Nat) (ys : List D), (∀ p ∈ qs, p < xs.length) → forD [4] (.nm 4) (.tmp ys) bmended_1 (qs.map pD) E S = if qs.all (fun p => decide (F[p]?.getD 0 = xs[p]?.getD 0)) = true then .next E S else .ret .non S := by
    intro qs
    induction qs with
    | nil => intro ys _; exact forD_nil trivial
    | cons p qs ih =>
      intro ys hq
      have hp := hq p List.mem_cons_self
      have s1 : subD (pD p) (.int 1) S = .ok (.int (p : Int)) S := by
        unfold pD
        rw [subD_i, show ((p : Int) + 1 - 1) = (p : Int) by omega]
      have x1 : ixD (.lst (F.map D.int)) (.int (p : Int)) S = .ok (.int (F[p]?.getD 0)) S := by
        rw [ixD_lst, atI_cast, List.getElem?_map, List.getElem?_eq_getElem (by omega : p < F.length)]
        rfl
      have x2 : ixD (.lst (xs.map D.int)) (.int (p : Int)) S = .ok (.int (xs[p]?.getD 0)) S := by
        rw [ixD_lst, atI_cast, List.getElem?_map, List.getElem?_eq_getElem hp]
        rfl
      rw [List.map_cons, forD_cons (src := .tmp _) trivial, List.all_cons]
      by_cases hv : F[p]?.getD 0 = xs[p]?.getD 0
      · have pv := decide_eq_true hv
        have t : turn [4] (.nm 4) bmended_1 (pD p) E S = .next E S := by
          simp only [E, turn, bmended_1, goS, s1, x1, x2, neD_int, pv, Bool.not_true, Bool.false_eq_true, if_false]
        rw [t, pv, Bool.true_and]
        exact ih ys fun z hz => hq z (List.mem_cons_of_mem _ hz)
      · have pv := decide_eq_false hv
        have t : turn [4] (.nm 4) bmended_1 (pD p) E S = .ret .non S := by
          simp only [E, turn, bmended_1, goS, s1, x1, x2, neD_int, pv, Bool.not_false, if_true]
        rw [t, pv, Bool.false_and, if_neg (by decide)]
  have q := lp ps (ps.map pD) hr
  simp only [E] at q
  simp only [Fmended, runD, bmended, go0, goS, ln, th, fl]
  rw [forS_lst (xs := ps.map pD) (by simp only [goS, lnf, sl]), q, hm]
  by_cases hc : ps.all (fun p => decide (F[p]?.getD 0 = xs[p]?.getD 0)) = true
  · rw [if_pos hc, if_pos hc]
    simp only [goS]
    exact fin_same (by simp)
  · rw [if_neg hc, if_neg hc]
    simp only [goS]
    exact fin_same rfl
theorem number_is (S : Sto) (ds : List Int) (h : ds.length < 1000) : Fnumber_of [.lst (ds.map D.int)] S = .ok (.int (numF ds)) S := by
  have lp : ∀ (xs acc : List Int) (ys : List D), forD [2] (.nm 2) (.tmp ys) bnumber_of_1 (xs.map D.int) [some (.lst (ds.map D.int)), some (.int (numF acc)), none] S = .next [some (.lst (ds.map D.int)), some (.int (numF (xs.reverse ++ acc))), none] S := by
    intro xs
    induction xs with
    | nil => intro acc ys; exact forD_nil trivial
    | cons x xs ih =>
      intro acc ys
      have f1 : FitMul (numF acc) 31 := .right (by decide) (by decide)
      have nf : numF (x :: acc) = numF acc * 31 + x := by
        show x + 31 * numF acc = _
        omega
      have t : turn [2] (.nm 2) bnumber_of_1 (.int x) [some (.lst (ds.map D.int)), some (.int (numF acc)), none] S = .next [some (.lst (ds.map D.int)), some (.int (numF (x :: acc))), none] S := by
        rw [nf]
        simp only [turn, bnumber_of_1, goS, mulD_ok f1, addD_int]
      rw [List.map_cons, forD_cons (src := .tmp _) trivial, t]
      simp only
      rw [ih (x :: acc) ys, List.reverse_cons, List.append_assoc]
      rfl
  have q := lp ds.reverse [] (ds.map D.int).reverse
  rw [List.reverse_reverse, List.append_nil] at q
  have q' : forD [2] (.nm 2) (.tmp (ds.map D.int).reverse) bnumber_of_1 (ds.map D.int).reverse [some (.lst (ds.map D.int)), some (.int 0), none] S = .next [some (.lst (ds.map D.int)), some (.int (numF ds)), none] S := by
    rw [← List.map_reverse] at q ⊢
    exact q
  have sf : sFor [2] (.nm 2) (iRv (eVar 0)) bnumber_of_1 [some (.lst (ds.map D.int)), some (.int 0), none] S = .next [some (.lst (ds.map D.int)), some (.int (numF ds)), none] S := by
    rw [ap_For, ap_iRv]
    simp only [goS, srcRv_lst, Src.items_tmp]
    exact q'
  simp only [Fnumber_of, runD, bnumber_of, go0, goS, sf]
  exact fin_same rfl
noncomputable def adR : Option (Int × Int) → D
  | none => .non
  | some p => .tup [.int p.1, .int p.2]
theorem adR_gnd (o : Option (Int × Int)) : (adR o).gnd = true := by cases o <;> rfl
theorem addrin_is (S : Sto) (t : List Int) (h5 : 5 ≤ t.length) (h : t.length < 100) : Faddress_in [.lst (t.map D.int)] S = .ok (adR (adO t)) S := by
  have cu : cutL (t.map D.int) (some 1) (some (-3)) = ((t.drop 1).take (t.length - 4)).map D.int := by
    unfold cutL
    rw [List.length_map, show HT.sIx t.length 0 (some 1) = 1 by show min 1 t.length = 1; omega, show HT.sIx t.length t.length (some (-3)) = t.length - 3 by show ((-3 : Int) + (t.length : Int)).toNat = _; omega, ← List.map_drop, ← List.map_take, show t.length - 3 - 1 = t.length - 4 by omega]
  have ne : ∃ ds d, (t.drop 1).take (t.length - 4) = ds ++ [d] := by
    have hl : ((t.drop 1).take (t.length - 4)).length ≠ 0 := by
      rw [List.length_take, List.length_drop]
      omega
    rcases List.eq_nil_or_concat ((t.drop 1).take (t.length - 4)) with hh | ⟨ds, d, hh⟩
    · rw [hh] at hl
      exact absurd rfl hl
    · exact ⟨ds, d, by rw [hh, List.concat_eq_append]⟩
  obtain ⟨ds, d, hd⟩ := ne
  have hl : (ds ++ [d]).length < 1000 := by
    rw [← hd, List.length_take, List.length_drop]
    omega
  obtain ⟨a, t', rfl⟩ : ∃ a t', t = a :: t' := by
    cases t with
    | nil => simp at h5
    | cons a t' => exact ⟨a, t', rfl⟩
  have x1 : ixD (.lst ((ds ++ [d]).map D.int)) (.int (-1)) S = .ok (.int d) S := by
    rw [ixD_lst, atI_m1, List.getLast?_map, List.getLast?_concat]
    rfl
  have x0 : ixD (.lst ((a :: t').map D.int)) (.int 0) S = .ok (.int a) S := by
    rw [ixD_lst, atI_0]
    rfl
  have num := number_is S (ds ++ [d]) hl
  unfold adO
  rw [hd]
  rw [hd] at cu
  simp only [List.getLast?_concat, Option.getD_some]
  by_cases h0 : d = 0
  · have p0 := decide_eq_true h0
    rw [if_pos h0]
    simp only [Faddress_in, runD, baddress_in, go0, goS, negD_int, slD_lst, cu, x1, neD_int, p0, Bool.not_true, Bool.false_eq_true, if_false]
    exact fin_same rfl
  · have p0 := decide_eq_false h0
    rw [if_neg h0]
    simp only [Faddress_in, runD, baddress_in, go0, goS, negD_int, slD_lst, cu, x1, neD_int, p0, Bool.not_false, if_true, x0, num]
    exact fin_same rfl
noncomputable def lsP (f : List Nat) : D := .lst (f.map pD)
theorem lsP_gnd (f : List Nat) : (lsP f).gnd = true := gnds_map (fun _ => rfl) f
theorem suspects_is (S : Sto) (lost : List Nat) (n : Nat) (hn : n < 1000) (hl : lost.length < 1000) : Fsuspects [lsP lost, .int (n : Nat)] S = .ok (.lst ((susp lost n).map lsP)) S := by
  have ln : lenD [lsP lost] S = .ok (.int (lost.length : Nat)) S := by unfold lsP; rw [lenD_lst, List.length_map]
  have lc : lcD (.nm 2) (.tmp (rngD 1 ((n : Int) + 1))) (eTB (e2 (inD true) (eVar 2) (eVar 0))) (e2 addD (eVar 0) (eAno (nLst [(eVar 2)]))) [some (lsP lost), some (.int (n : Nat)), none] (rngD 1 ((n : Int) + 1)) S = .ok ((others n lost).map fun p => lsP (lost ++ [p])) S := by
    rw [rng1_map, others_eq]
    exact lc_map (tg := .nm 2) (t := eTB (e2 (inD true) (eVar 2) (eVar 0))) (f := e2 addD (eVar 0) (eAno (nLst [(eVar 2)]))) (e := [some (lsP lost), some (.int (n : Nat)), none]) (S := S) (ys := (List.range n).map pD) pD (fun i => !decide (i ∈ lost)) (fun p => lsP (lost ++ [p])) (List.range n) fun i _ => ⟨[some (lsP lost), some (.int (n : Nat)), some (pD i)], rfl, by
      have := in_pD lost i S true
      simp only [goS, lsP, this, if_true], fun _ => by
      have ad : addD (.lst (lost.map pD)) (.lst [pD i]) S = .ok (lsP (lost ++ [i])) S := by
        rw [addL (by rw [List.length_map]; simp; omega)]
        unfold lsP
        rw [List.map_append]
        rfl
      simp only [goS, lsP, ap_nLst]
      exact ad⟩
  have n1 := nLcR2 (vs := [2]) (tg := .nm 2) (f := eC (.int 1)) (g := e2 addD (eVar 1) (eC (.int 1))) (u := e2 addD (eVar 0) (eAno (nLst [(eVar 2)]))) (e := [some (lsP lost), some (.int (n : Nat)), none]) (S := S) (i := 1) (j := (n : Int) + 1) rfl (by simp only [goS, addD_int]) (by decide) (by decide) (by omega) (by omega) (by omega) lc
  have hol : (others n lost).length ≤ n := by
    have := List.length_filter_le (fun i => decide (i ∉ lost)) (List.range n)
    rw [List.length_range] at this
    exact this
  by_cases h1 : 1 < lost.length
  · have p1 : decide ((1 : Int) < (lost.length : Nat)) = true := decide_eq_true (by omega)
    simp only [Fsuspects, runD, bsuspects, go0, goS, ln, gtD_i, p1, if_true, ap_nLst]
    unfold susp
    rw [if_pos h1]
    exact fin_same (by simp [lsP_gnd])
  · have p1 : decide ((1 : Int) < (lost.length : Nat)) = false := decide_eq_false (by omega)
    have ad : addD (.lst [lsP lost]) (.lst ((others n lost).map fun p => lsP (lost ++ [p]))) S = .ok (.lst ((susp lost n).map lsP)) S := by
      rw [addL (by rw [List.length_map]; simp; omega)]
      unfold susp
      rw [if_neg h1, List.map_cons, List.map_map]
      rfl
    simp only [Fsuspects, runD, bsuspects, go0, goS, ln, gtD_i, p1, Bool.false_eq_true, if_false, ap_nLst, n1, ad]
    exact fin_same (gnds_map lsP_gnd _)
theorem optI_isN (o : Option Int) : (optI o).isN = decide (o = none) := by cases o <;> rfl
theorem fives_is (S : Sto) (ss : List (Option Int)) (h5 : 5 ≤ ss.length) (h30 : ss.length ≤ 30) (hr : RgO ss) : Fread_fives [.lst (ss.map optI)] S = .ok (adR (readO ss)) S := by
  have wd := plain_wd h5 h30 hr
  have pl : (plainL ss).length = ss.length := by unfold plainL; rw [List.length_map]
  have lc : lcD (.tp [.nm 5, .nm 6]) (.tmp (enumL (ss.map optI))) (eTB (e1 (isND false) (eVar 6))) (e2 addD (eVar 5) (eC (.int 1))) [some (.lst (ss.map optI)), none, none, none, none, none, none] (enumL (ss.map optI)) S = .ok ((lostL ss).map pD) S := by
    rw [enum_map optI ss none]
    have hfil : lostL ss = (List.range ss.length).filter fun i => decide ((ss[i]?.getD none) = none) := by
      unfold lostL
      refine List.filter_congr fun i hi => ?_
      have hi := List.mem_range.mp hi
      rw [List.getElem?_eq_getElem hi]
      simp
    rw [hfil]
    exact lc_map (tg := .tp [.nm 5, .nm 6]) (t := eTB (e1 (isND false) (eVar 6))) (f := e2 addD (eVar 5) (eC (.int 1))) (e := [some (.lst (ss.map optI)), none, none, none, none, none, none]) (S := S) (ys := (List.range ss.length).map fun i => D.tpi [.int (i : Nat), optI (ss[i]?.getD none)])
      (fun i => D.tpi [.int (i : Nat), optI (ss[i]?.getD none)]) (fun i => decide ((ss[i]?.getD none) = none)) pD (List.range ss.length) fun i _ => ⟨[some (.lst (ss.map optI)), none, none, none, none, some (.int (i : Nat)), some (optI (ss[i]?.getD none))], rfl, by
        simp only [goS, isND_ap, Bool.false_eq_true, if_false, optI_isN], fun _ => by
        simp only [goS, addD_int]
        rfl⟩
  have n1 := nLcEA_lst (vs := [5, 6]) (f := eVar 0) (e := [some (.lst (ss.map optI)), none, none, none, none, none, none]) (S := S) (xs := ss.map optI) rfl (by rw [List.length_map]; omega) lc
  have ln1 : lenD [lsP (lostL ss)] S = .ok (.int ((lostL ss).length : Nat)) S := by unfold lsP; rw [lenD_lst, List.length_map]
  have lns : lenD [.lst (ss.map optI)] S = .ok (.int (ss.length : Nat)) S := by rw [lenD_lst, List.length_map]
  have hll : (lostL ss).length ≤ ss.length := by
    have := List.length_filter_le (fun i => decide (ss[i]? = some none)) (List.range ss.length)
    rw [List.length_range] at this
    exact this
  have n1' : nLc [5, 6] (.tp [(.nm 5), (.nm 6)]) (iEA (eVar 0)) (eTB (e1 (isND false) (eVar 6))) (e2 addD (eVar 5) (eC (.int 1))) [some (.lst (ss.map optI)), none, none, none, none, none, none] S = .ok (.lst ((lostL ss).map pD)) S := n1
  by_cases h3 : 3 < (lostL ss).length
  · have p3 : decide ((3 : Int) < ((lostL ss).length : Nat)) = true := decide_eq_true (by omega)
    have ln1' : lenD [.lst ((lostL ss).map pD)] S = .ok (.int ((lostL ss).length : Nat)) S := ln1
    simp only [Fread_fives, runD, bread_fives, go0, goS, n1', ln1', gtD_i, p3, if_true]
    unfold readO findO
    rw [if_pos h3]
    exact fin_same rfl
  · have p3 : decide ((3 : Int) < ((lostL ss).length : Nat)) = false := decide_eq_false (by omega)
    have ln1' : lenD [.lst ((lostL ss).map pD)] S = .ok (.int ((lostL ss).length : Nat)) S := ln1
    have lc2 : lcD (.nm 6) (.tmp (ss.map optI)) tYesD (eIf (eTB (e1 (isND true) (eVar 6))) (eVar 6) (eC (.int 0))) [some (.lst (ss.map optI)), some (lsP (lostL ss)), none, none, none, none, none] (ss.map optI) S = .ok ((plainL ss).map D.int) S := by
      unfold plainL
      rw [List.map_map]
      exact lc_all (tg := .nm 6) (f := eIf (eTB (e1 (isND true) (eVar 6))) (eVar 6) (eC (.int 0))) (e := [some (.lst (ss.map optI)), some (lsP (lostL ss)), none, none, none, none, none]) (S := S) (ys := ss.map optI) optI (fun s => D.int (s.getD 0)) ss fun s _ => ⟨[some (.lst (ss.map optI)), some (lsP (lostL ss)), none, none, none, none, some (optI s)], rfl, by
        cases s with
        | none => simp only [goS, isND_ap, if_true, optI, isN_non, Bool.not_true, Bool.false_eq_true, if_false, Option.getD_none]
        | some i => simp only [goS, isND_ap, if_true, optI, isN_int, Bool.not_false, Option.getD_some]⟩
    have n2 := nLcS_lst (vs := [6]) (tg := .nm 6) (f := eVar 0) (e := [some (.lst (ss.map optI)), some (lsP (lostL ss)), none, none, none, none, none]) (S := S) (xs := ss.map optI) rfl (by rw [List.length_map]; omega) lc2
    have su := suspects_is S (lostL ss) ss.length (by omega) (by omega)
    have hfr := susp_fr (lost := lostL ss) (n := ss.length) (by omega) (lost_nodup ss) (fun i hi => by
      have := mem_lost.mp hi
      exact (List.getElem?_eq_some_iff.mp this).1)
    let E : En := [some (.lst (ss.map optI)), some (lsP (lostL ss)), some (.lst ((plainL ss).map D.int)), none, none, none, none]
    have ff := for_find (dead := [3, 4]) (tg := .nm 3) (body := bread_fives_1) (e := E) (S := S) (ys := (susp (lostL ss) ss.length).map lsP) lsP (fun free => (mendO (plainL ss) free).map fun t => adR (adO t)) (susp (lostL ss) ss.length) (fun free hf => by
      have hF := (hfr free hf).1
      rw [← pl] at hF
      have md := mended_is S (plainL ss) free wd hF
      have hl : ∀ t, mendO (plainL ss) free = some t → t.length = ss.length := fun t ht => by
        rw [(mend_some wd hF ht).1, pl]
      cases hm : mendO (plainL ss) free with
      | none =>
        rw [hm] at md
        simp only [E, lsP, turn, bread_fives_1, goS, md, optL, isND_ap, if_true, isN_non, Bool.not_true, Bool.false_eq_true, if_false, Option.map_none]
      | some t =>
        rw [hm] at md
        have ha := addrin_is S t (by rw [hl t hm]; exact h5) (by rw [hl t hm]; omega)
        have il : (D.lst (t.map D.int)).isN = false := rfl
        simp only [E, lsP, turn, bread_fives_1, goS, md, optL, isND_ap, if_true, il, Bool.not_false, Option.map_some, ha])
    have hfs : (susp (lostL ss) ss.length).findSome? (fun free => (mendO (plainL ss) free).map fun t => adR (adO t)) = ((susp (lostL ss) ss.length).findSome? (mendO (plainL ss))).map fun t => adR (adO t) := by
      generalize susp (lostL ss) ss.length = L
      induction L with
      | nil => rfl
      | cons x L ih =>
        rw [List.findSome?_cons, List.findSome?_cons]
        cases mendO (plainL ss) x with
        | none => exact ih
        | some t => rfl
    rw [hfs] at ff
    simp only [E, lsP] at ff
    simp only [lsP] at n2 su
    simp only [Fread_fives, runD, bread_fives, go0, goS, n1', ln1', gtD_i, p3, Bool.false_eq_true, if_false, n2]
    rw [forS_lst (xs := (susp (lostL ss) ss.length).map lsP) (by simp only [goS, lns, su])]
    rw [ff]
    unfold readO findO
    rw [if_neg h3]
    cases (susp (lostL ss) ss.length).findSome? (mendO (plainL ss)) with
    | none =>
      simp only [Option.map_none, goS]
      exact fin_same rfl
    | some t =>
      simp only [Option.map_some, goS]
      exact fin_same (adR_gnd _)
noncomputable def fivesL (l : List Nat) : List (Option Int) := (List.range (l.length / 5)).map fun k => symO ((l.drop (k * 5)).take 5)
noncomputable def readL (l : List Nat) : Option (Int × Int) := if l.length % 5 = 0 ∧ 5 ≤ l.length / 5 ∧ l.length / 5 ≤ 30 then readO (fivesL l) else none
theorem valB_nn : ∀ (cs : List Nat) (a : Int), 0 ≤ a → 0 ≤ valB cs a
  | [], _, h => h
  | c :: cs, a, h => valB_nn cs _ (by split <;> omega)
theorem symO_rng {f : List Nat} {x : Int} (h : symO f = some x) : 0 ≤ x ∧ x < 31 := by
  unfold symO at h
  split at h
  · cases h
  · split at h
    · cases h
      exact ⟨valB_nn _ _ (by decide), by assumption⟩
    · cases h
theorem fivesL_rg (l : List Nat) : RgO (fivesL l) := fun s hs x hx => by
  unfold fivesL at hs
  obtain ⟨k, _, rfl⟩ := List.mem_map.mp hs
  exact symO_rng hx
theorem isbar (S : Sto) {c : Nat} (h : Bar c) : inTD false (.str (tx [c])) (.tup [.str (tx [108]), .str (tx [115]), .str (tx [63])]) S = .ok (.bl true) S := by
  rcases h with rfl | rfl | rfl <;> exact if_pos ⟨by decide +kernel, by decide +kernel⟩
theorem allbars (S : Sto) (l : List Nat) (hl : l.length < 1000) (h : ∀ c ∈ l, Bar c) (m : Nat) : lcD (.nm 2) (.tmp (l.map fun c => D.str (tx [c]))) tYesD (e2 (inTD false) (eVar 2) (eTup [(eC (.str "l")), (eC (.str "s")), (eC (.str "?"))])) [some (.str (tx l)), none, none, none] (l.map fun c => D.str (tx [c])) S = .ok ((l.map fun _ => true).map D.bl) S := by
  rw [List.map_map]
  exact lc_all (tg := .nm 2) (f := e2 (inTD false) (eVar 2) (eTup [(eC (.str "l")), (eC (.str "s")), (eC (.str "?"))])) (e := [some (.str (tx l)), none, none, none]) (S := S) (ys := l.map fun c => D.str (tx [c])) (fun c => D.str (tx [c])) (fun _ => D.bl true) l fun c hc => ⟨[some (.str (tx l)), none, some (.str (tx [c])), none], rfl, by
    simp only [goS, s_l, s_s, s_q, isbar S (h c hc)]⟩
theorem read_is (S : Sto) (l : List Nat) (hl : l.length < 1000) (h : ∀ c ∈ l, Bar c) : Fread_mark [.str (tx l)] S = .ok (adR (readL l)) S := by
  have n1 := nLcTx (vs := [2]) (tg := .nm 2) (f := eVar 0) (e := [some (.str (tx l)), none, none, none]) (S := S) (x := tx l) rfl (by rw [tx_len]; omega) (allbars S l hl h 0)
  have al : (l.map fun _ => true).all id = true := by simp
  have ln := tx_lenD (a := l) S (by omega)
  have fd : fdivD (.int (l.length : Nat)) (.int 5) S = .ok (.int ((l.length / 5 : Nat) : Int)) S := by
    rw [fdivD_pos (by decide) (by decide +kernel)]
    rfl
  have md : modD (.int (l.length : Nat)) (.int 5) S = .ok (.int ((l.length % 5 : Nat) : Int)) S := by
    rw [modD_pos (by decide)]
    rfl
  unfold readL
  simp only [Fread_mark, runD, bread_mark, go0, goS, n1, boolsD_map, al, Bool.not_true, Bool.false_eq_true, if_false, ln, fd, md, neD_int]
  by_cases h5 : l.length % 5 = 0
  · have p5 : decide (((l.length % 5 : Nat) : Int) = 0) = true := decide_eq_true (by omega)
    simp only [p5, Bool.not_true, Bool.false_eq_true, if_false, goS, leD_i]
    by_cases h6 : 5 ≤ l.length / 5
    · have p6 : decide ((5 : Int) ≤ ((l.length / 5 : Nat) : Int)) = true := decide_eq_true (by omega)
      by_cases h7 : l.length / 5 ≤ 30
      · have p7 : decide (((l.length / 5 : Nat) : Int) ≤ 30) = true := decide_eq_true (by omega)
        have fl : (fivesL l).length = l.length / 5 := by unfold fivesL; rw [List.length_map, List.length_range]
        have lc : lcD (.nm 3) (.tmp (rngD 0 ((l.length / 5 : Nat) : Int))) tYesD (eFn Fsymbol_in [(eSl (eVar 0) (pE (e2 mulD (eVar 3) (eC (.int 5)))) (pE (e2 mulD (e2 addD (eVar 3) (eC (.int 1))) (eC (.int 5)))))]) [some (.str (tx l)), some (.int ((l.length / 5 : Nat) : Int)), none, none] (rngD 0 ((l.length / 5 : Nat) : Int)) S = .ok ((fivesL l).map optI) S := by
          rw [rng_map]
          unfold fivesL
          rw [List.map_map]
          exact lc_all (tg := .nm 3) (f := (eFn Fsymbol_in [(eSl (eVar 0) (pE (e2 mulD (eVar 3) (eC (.int 5)))) (pE (e2 mulD (e2 addD (eVar 3) (eC (.int 1))) (eC (.int 5)))))])) (e := [some (.str (tx l)), some (.int ((l.length / 5 : Nat) : Int)), none, none]) (S := S) (ys := (List.range (l.length / 5)).map fun k : Nat => D.int (k : Int)) (fun k : Nat => D.int (k : Int)) (fun k => optI (symO ((l.drop (k * 5)).take 5))) (List.range (l.length / 5)) fun k _ =>
            ⟨[some (.str (tx l)), some (.int ((l.length / 5 : Nat) : Int)), none, some (.int (k : Int))], rfl, by
              have f1 : FitMul (k : Int) 5 := .right (by decide) (by decide)
              have f2 : FitMul ((k : Int) + 1) 5 := .right (by decide) (by decide)
              have cu : cutL l (some ((k : Int) * 5)) (some (((k : Int) + 1) * 5)) = (l.drop (k * 5)).take 5 := by
                have := cut_mid (xs := l) (a := k * 5) (b := (k + 1) * 5) (by omega)
                rw [show ((k * 5 : Nat) : Int) = (k : Int) * 5 by omega, show (((k + 1) * 5 : Nat) : Int) = ((k : Int) + 1) * 5 by omega, show (k + 1) * 5 - k * 5 = 5 by omega] at this
                exact this
              have sl := tx_sl (a := l) S (by omega) (some ((k : Int) * 5)) (some (((k : Int) + 1) * 5))
              rw [cu] at sl
              have sy := symbol_in S ((l.drop (k * 5)).take 5) fun c hc => h c (List.mem_of_mem_drop (List.mem_of_mem_take hc))
              simp only [goS, mulD_ok f1, addD_int, mulD_ok f2, sl, sy]⟩
        have n2 := nLcR1s (vs := [3]) (tg := .nm 3) (f := eVar 1) (e := [some (.str (tx l)), some (.int ((l.length / 5 : Nat) : Int)), none, none]) (S := S) (n := l.length / 5) rfl (by omega) lc
        have fs := fives_is S (fivesL l) (by omega) (by omega) (fivesL_rg l)
        simp only [p6, p7, if_true, goS, Bool.not_true, Bool.false_eq_true, if_false, n2, fs]
        rw [if_pos ⟨h5, h6, h7⟩]
        exact fin_same (adR_gnd _)
      · have p7 : decide (((l.length / 5 : Nat) : Int) ≤ 30) = false := decide_eq_false (by omega)
        simp only [p6, p7, if_true, goS, Bool.not_false]
        rw [if_neg fun z => h7 z.2.2]
        exact fin_same rfl
    · have p6 : decide ((5 : Int) ≤ ((l.length / 5 : Nat) : Int)) = false := decide_eq_false (by omega)
      simp only [p6, Bool.false_eq_true, if_false, if_true, goS, Bool.not_false]
      rw [if_neg fun z => h6 z.2.1]
      exact fin_same rfl
  · have p5 : decide (((l.length % 5 : Nat) : Int) = 0) = false := decide_eq_false (by omega)
    simp only [p5, Bool.not_false, if_true, goS]
    rw [if_neg fun z => h5 z.1]
    exact fin_same rfl
theorem fives_of {fs : List (List Nat)} (h : ∀ f ∈ fs, f.length = 5) : fivesL fs.flatten = fs.map symO := by
  have hl : ∀ fs : List (List Nat), (∀ f ∈ fs, f.length = 5) → fs.flatten.length = fs.length * 5 := by
    intro fs
    induction fs with
    | nil => intro _; rfl
    | cons f fs ih =>
      intro h
      rw [List.flatten_cons, List.length_append, h f List.mem_cons_self, ih fun g hg => h g (List.mem_cons_of_mem _ hg), List.length_cons]
      omega
  have hd : ∀ (fs : List (List Nat)) (k : Nat) (f : List Nat), (∀ f ∈ fs, f.length = 5) → fs[k]? = some f → (fs.flatten.drop (k * 5)).take 5 = f := by
    intro fs
    induction fs with
    | nil => intro k f _ hk; simp at hk
    | cons g fs ih =>
      intro k f h hk
      have hg := h g List.mem_cons_self
      cases k with
      | zero =>
        have e : g = f := by simpa using hk
        rw [List.flatten_cons, Nat.zero_mul, List.drop_zero, ← hg, List.take_left, e]
      | succ k =>
        rw [List.flatten_cons, show (k + 1) * 5 = g.length + k * 5 by omega, List.drop_append, List.drop_eq_nil_of_le (by omega), List.nil_append, show g.length + k * 5 - g.length = k * 5 by omega]
        exact ih k f (fun z hz => h z (List.mem_cons_of_mem _ hz)) (by simpa using hk)
  unfold fivesL
  rw [hl fs h, Nat.mul_div_cancel _ (by decide)]
  apply List.ext_getElem?
  intro i
  rw [List.getElem?_map, List.getElem?_map]
  by_cases hi : i < fs.length
  · rw [List.getElem?_range hi, List.getElem?_eq_getElem hi, Option.map_some, Option.map_some, hd fs i fs[i] h (List.getElem?_eq_getElem hi)]
  · rw [List.getElem?_eq_none (by rw [List.length_range]; omega), List.getElem?_eq_none (by omega)]
    rfl
theorem flat5 : ∀ {fs : List (List Nat)}, (∀ f ∈ fs, f.length = 5) → fs.flatten.length = fs.length * 5
  | [], _ => rfl
  | f :: fs, h => by
    rw [List.flatten_cons, List.length_append, h f List.mem_cons_self, flat5 fun g hg => h g (List.mem_cons_of_mem _ hg), List.length_cons]
    omega
theorem readL_of {fs : List (List Nat)} (h : ∀ f ∈ fs, f.length = 5) (h1 : 5 ≤ fs.length) (h2 : fs.length ≤ 30) : readL fs.flatten = readO (fs.map symO) := by
  unfold readL
  rw [flat5 h, Nat.mul_mod_left, Nat.mul_div_cancel _ (by decide), if_pos ⟨rfl, h1, h2⟩, fives_of h]
theorem wsum_app (f : Int → Int) : ∀ (xs ys : List Int) (p : Int), wsum f p (xs ++ ys) = wsum f p xs + wsum f (p + xs.length) ys
  | [], ys, p => by simp [wsum]
  | x :: xs, ys, p => by
    rw [List.cons_append]
    show x * f p + wsum f (p + 1) (xs ++ ys) = x * f p + wsum f (p + 1) xs + _
    rw [wsum_app f xs ys (p + 1), List.length_cons, show p + 1 + (xs.length : Int) = p + ((xs.length + 1 : Nat) : Int) by omega]
    omega
theorem find_one {α β : Type} {g : α → Option β} {z : β} : ∀ {L : List α}, (∀ x ∈ L, ∀ y, g x = some y → y = z) → (∃ x ∈ L, (g x).isSome) → L.findSome? g = some z
  | [], _, ⟨_, hx, _⟩ => absurd hx List.not_mem_nil
  | x :: L, h, ⟨y, hy, hs⟩ => by
    rw [List.findSome?_cons]
    cases e : g x with
    | some w => simp only; rw [h x List.mem_cons_self w e]
    | none =>
      simp only
      refine find_one (fun x' hx' => h x' (List.mem_cons_of_mem _ hx')) ⟨y, ?_, hs⟩
      rcases List.mem_cons.mp hy with rfl | hy
      · rw [e] at hs; cases hs
      · exact hy
theorem ls_digits (a : Sa) (S : Sto) (h : SaOk a) (tl : En) : whileD [] (eTB (e2 gtD (eVar 2) (eC (.int 0)))) b_law_symbols_1 (some (adD a) :: some (.int a.1) :: some (.int (numF a.2)) :: some (.ref S.length) :: tl) (S ++ [.lst [.int a.1]]) =
    .next (some (adD a) :: some (.int a.1) :: some (.int 0) :: some (.ref S.length) :: tl) (S ++ [.lst ((a.1 :: a.2).map D.int)]) := by
  have l2 := h.l2
  have lp : ∀ (xs acc : List Int), DsOk xs → acc.length + xs.length ≤ 2000 → whileN [] (eTB (e2 gtD (eVar 2) (eC (.int 0)))) b_law_symbols_1 (xs.length + 1) (some (adD a) :: some (.int a.1) :: some (.int (numF xs)) :: some (.ref S.length) :: tl) (S ++ [.lst (acc.map D.int)]) =
      .next (some (adD a) :: some (.int a.1) :: some (.int 0) :: some (.ref S.length) :: tl) (S ++ [.lst ((acc ++ xs).map D.int)]) := by
    intro xs
    induction xs with
    | nil =>
      intro acc _ _
      rw [List.append_nil]
      exact while_end (by simp only [goS, gtD_i, numF]; rfl)
    | cons x xs ih =>
      intro acc h hl
      rw [List.length_cons] at hl
      have hp := numF_pos (ds := x :: xs) (by simp) h
      have hx := h.1 x List.mem_cons_self
      have m1 : modD (.int (numF (x :: xs))) (.int 31) (S ++ [.lst (acc.map D.int)]) = .ok (.int x) (S ++ [.lst (acc.map D.int)]) := by
        rw [modD_pos (by decide)]
        unfold numF
        rw [show (x + 31 * numF xs) % 31 = x by omega]
      have m2 : ∀ T, fdivD (.int (numF (x :: xs))) (.int 31) T = .ok (.int (numF xs)) T := fun T => by
        rw [fdivD_pos (by decide) (by decide +kernel)]
        conv => lhs; unfold numF
        rw [show (x + 31 * numF xs) / 31 = numF xs by omega]
      have hat : (S ++ [DO.lst (acc.map D.int)])[S.length]? = some (.lst (acc.map D.int)) := last_at
      have ap : appD (.ref S.length) [.int x] (S ++ [.lst (acc.map D.int)]) = .ok .non (S ++ [.lst ((acc ++ [x]).map D.int)]) := by
        rw [appD_ref hat (sz (by rw [List.length_map]; omega)), set_last, List.map_append]
        rfl
      have bd : b_law_symbols_1 (some (adD a) :: some (.int a.1) :: some (.int (numF (x :: xs))) :: some (.ref S.length) :: tl) (S ++ [.lst (acc.map D.int)]) = .next (some (adD a) :: some (.int a.1) :: some (.int (numF xs)) :: some (.ref S.length) :: tl) (S ++ [.lst ((acc ++ [x]).map D.int)]) := by
        simp only [b_law_symbols_1, goS, isT_ref hat, if_true, m1, ap, m2]
      rw [List.length_cons, while_go (n := xs.length + 1) (by simp only [goS, gtD_i, hp, decide_true]) bd]
      have := ih (acc ++ [x]) h.tail (by rw [List.length_append, List.length_singleton]; omega)
      rw [List.append_assoc] at this
      exact this
  exact whileD_eq (lp a.2 [a.1] h.ds (by simp; omega)) (by simp)
theorem lawsym_is (S : Sto) (a : Sa) (h : SaOk a) : F_law_symbols [adD a] S = .ok (.lst ((symL a).map D.int)) S := by
  have l2 := h.l2
  have dq := ls_digits a S h
  obtain ⟨st, ds⟩ := a
  simp only at l2 dq
  -- the three that stand there
  have slen := symL_len (st, ds)
  have srng := symL_rng h
  have ssum := symL_sums h
  have stk := symL_take (st, ds)
  simp only at slen stk
  generalize hxs : st :: ds = xs at *
  have xl : xs.length = ds.length + 1 := by rw [← hxs, List.length_cons]
  have xr : ∀ x ∈ xs, 0 ≤ x ∧ x < 31 := fun x hx => by
    rw [← stk] at hx
    exact srng x (List.mem_of_mem_take hx)
  generalize symL (st, ds) = F at *
  obtain ⟨f0, s0, t0, hF⟩ : ∃ f0 s0 t0, F = xs ++ [f0, s0, t0] := by
    have hd : (F.drop (ds.length + 1)).length = 3 := by rw [List.length_drop]; omega
    match hm : F.drop (ds.length + 1), hd with
    | [f0, s0, t0], _ => exact ⟨f0, s0, t0, by rw [← hm, ← stk, List.take_append_drop]⟩
  let third : Int → Int → Int := fun f s => (0 - xs.sum - f - s) % 31
  let P : Int → Int → Prop := fun f s => (w1 xs + f * ((ds.length + 1 : Nat) + 1) + s * ((ds.length + 1 : Nat) + 2) + third f s * ((ds.length + 1 : Nat) + 3)) % 31 = 0 ∧
    (w2 xs + f * ((ds.length + 1 : Nat) + 1) * ((ds.length + 1 : Nat) + 1) + s * ((ds.length + 1 : Nat) + 2) * ((ds.length + 1 : Nat) + 2) + third f s * ((ds.length + 1 : Nat) + 3) * ((ds.length + 1 : Nat) + 3)) % 31 = 0
  have dec : ∀ f s, Decidable (P f s) := fun f s => inferInstanceAs (Decidable (_ ∧ _))
  have sum0 : ∀ f s t, w0 (xs ++ [f, s, t]) = xs.sum + f + s + t := fun f s t => by
    unfold w0
    rw [wsum_1, List.sum_append, List.sum_cons, List.sum_cons, List.sum_cons, List.sum_nil]
    omega
  have sum1 : ∀ f s t, w1 (xs ++ [f, s, t]) = w1 xs + f * ((ds.length + 1 : Nat) + 1) + s * ((ds.length + 1 : Nat) + 2) + t * ((ds.length + 1 : Nat) + 3) := fun f s t => by
    unfold w1
    rw [wsum_app, xl]
    simp only [wsum]
    rw [show (1 + ((ds.length + 1 : Nat) : Int)) = ((ds.length + 1 : Nat) : Int) + 1 by omega, show (((ds.length + 1 : Nat) : Int) + 1 + 1) = ((ds.length + 1 : Nat) : Int) + 2 by omega, show (((ds.length + 1 : Nat) : Int) + 2 + 1) = ((ds.length + 1 : Nat) : Int) + 3 by omega]
    omega
  have sum2 : ∀ f s t, w2 (xs ++ [f, s, t]) = w2 xs + f * ((ds.length + 1 : Nat) + 1) * ((ds.length + 1 : Nat) + 1) + s * ((ds.length + 1 : Nat) + 2) * ((ds.length + 1 : Nat) + 2) + t * ((ds.length + 1 : Nat) + 3) * ((ds.length + 1 : Nat) + 3) := fun f s t => by
    unfold w2
    rw [wsum_app, xl]
    simp only [wsum]
    rw [show (1 + ((ds.length + 1 : Nat) : Int)) = ((ds.length + 1 : Nat) : Int) + 1 by omega, show (((ds.length + 1 : Nat) : Int) + 1 + 1) = ((ds.length + 1 : Nat) : Int) + 2 by omega, show (((ds.length + 1 : Nat) : Int) + 2 + 1) = ((ds.length + 1 : Nat) : Int) + 3 by omega]
    rw [Int.mul_assoc, Int.mul_assoc, Int.mul_assoc]
    omega
  have tb : ∀ f s, 0 ≤ third f s ∧ third f s < 31 := fun f s => ⟨Int.emod_nonneg _ (by decide), Int.emod_lt_of_pos _ (by decide)⟩
  have uq : ∀ f s : Int, 0 ≤ f → f < 31 → 0 ≤ s → s < 31 → P f s → xs ++ [f, s, third f s] = F := fun f s f0' f1 s0' s1 hp => by
    have tb := tb f s
    refine uniq3 (i := ds.length + 1) (j := ds.length + 2) (k := ds.length + 3) (by simp; omega) (by simp; omega) (fun x hx => ?_) srng ⟨?_, ?_, ?_⟩ ⟨ssum.1, ssum.2.1, ssum.2.2⟩ (by simp; omega) (by simp; omega) (by simp; omega) (by omega) (by omega) (by omega) (fun m m1 m2 m3 => ?_)
    · rcases List.mem_append.mp hx with hx | hx
      · exact xr x hx
      · simp only [List.mem_cons, List.not_mem_nil, or_false] at hx
        rcases hx with rfl | rfl | rfl
        · exact ⟨f0', f1⟩
        · exact ⟨s0', s1⟩
        · exact tb
    · rw [sum0]
      simp only [third]
      omega
    · rw [sum1]; exact hp.1
    · rw [sum2]; exact hp.2
    · by_cases hm : m < xs.length
      · rw [List.getElem?_append_left hm, hF, List.getElem?_append_left hm]
      · rw [List.getElem?_eq_none (by simp; omega), List.getElem?_eq_none (by omega)]
  have b0 := srng f0 (by rw [hF]; simp)
  have b1 := srng s0 (by rw [hF]; simp)
  have b2 := srng t0 (by rw [hF]; simp)
  have ex : P f0 s0 := by
    have e1 := ssum.1
    have e2' := ssum.2.1
    have e3 := ssum.2.2
    rw [hF, sum0] at e1
    rw [hF, sum1] at e2'
    rw [hF, sum2] at e3
    have et : third f0 s0 = t0 := by
      simp only [third]
      omega
    simp only [P]
    rw [et]
    exact ⟨e2', e3⟩
  -- the walk
  let T : Sto := S ++ [.lst (xs.map D.int)]
  have hat : T[S.length]? = some (.lst (xs.map D.int)) := last_at
  let E : Int → En := fun f => [some (adD (st, ds)), some (.int st), none, some (.ref S.length), some (.int (ds.length + 1 : Nat)), some (.int xs.sum), some (.int (w1 xs)), some (.int (w2 xs)), some (.int f), none, none, none, none, none]
  let E0 : En := [some (adD (st, ds)), some (.int st), none, some (.ref S.length), some (.int (ds.length + 1 : Nat)), some (.int xs.sum), some (.int (w1 xs)), some (.int (w2 xs)), none, none, none, none, none, none]
  let g : Int → Nat → Option D := fun f s => if P f (s : Int) then some (.lst ((xs ++ [f, (s : Int), third f s]).map D.int)) else none
  have md : ∀ y, modD (.int y) (.int 31) T = .ok (.int (y % 31)) T := fun y => modD_pos (by decide)
  have fr : ∀ (y : Int) (c : Nat), c < 40 → FitMul y ((ds.length + 1 : Nat) + (c : Int)) := fun y c hc => .right (by omega) (by omega)
  have f1 : ∀ y : Int, FitMul y ((ds.length + 1 : Nat) + 1) := fun y => fr y 1 (by decide)
  have f2 : ∀ y : Int, FitMul y ((ds.length + 1 : Nat) + 2) := fun y => fr y 2 (by decide)
  have f3 : ∀ y : Int, FitMul y ((ds.length + 1 : Nat) + 3) := fun y => fr y 3 (by decide)
  have inner : ∀ (f : Nat) (s : Nat), turn [9, 10, 11, 12] (.nm 9) b_law_symbols_2 (.int (s : Int)) (E f) T = match g f s with | some d => .ret d T | none => .next (E f) T := fun f s => by
    have ad : addD (.ref S.length) (.lst [.int (f : Int), .int (s : Int), .int (third f s)]) T = .ok (.lst ((xs ++ [(f : Int), (s : Int), third f s]).map D.int)) T := by
      show catL (lvOf T (.ref S.length)) (lvOf T (.lst [.int (f : Int), .int (s : Int), .int (third f s)])) T = _
      rw [lvOf_ref hat, lvOf_lst]
      unfold catL
      simp only
      rw [if_pos (Nat.le_of_lt (sz (by rw [List.length_map]; simp; omega))), List.map_append]
      rfl
    have tq : (0 - xs.sum - (f : Int) - (s : Int)) % 31 = third f s := rfl
    simp only [turn, b_law_symbols_2, E, goS, subD_i, md, tq, addD_int, mulD_ok (f1 _), mulD_ok (f2 _), mulD_ok (f3 _), eqD_int, g]
    by_cases h1 : (w1 xs + (f : Int) * ((ds.length + 1 : Nat) + 1) + (s : Int) * ((ds.length + 1 : Nat) + 2) + third f s * ((ds.length + 1 : Nat) + 3)) % 31 = 0
    · have p1 := decide_eq_true h1
      simp only [p1, if_true, goS]
      by_cases h2 : (w2 xs + (f : Int) * ((ds.length + 1 : Nat) + 1) * ((ds.length + 1 : Nat) + 1) + (s : Int) * ((ds.length + 1 : Nat) + 2) * ((ds.length + 1 : Nat) + 2) + third f s * ((ds.length + 1 : Nat) + 3) * ((ds.length + 1 : Nat) + 3)) % 31 = 0
      · have p2 := decide_eq_true h2
        have hp : P (f : Int) (s : Int) := ⟨h1, h2⟩
        simp only [p2, if_true, goS, ap_nLst, ad]
        rw [if_pos hp]
      · have p2 := decide_eq_false h2
        have hp : ¬ P (f : Int) (s : Int) := fun z => h2 z.2
        simp only [p2, Bool.false_eq_true, if_false, goS]
        rw [if_neg hp]
    · have p1 := decide_eq_false h1
      have hp : ¬ P (f : Int) (s : Int) := fun z => h1 z.1
      simp only [p1, Bool.false_eq_true, if_false, goS]
      rw [if_neg hp]
  have outer : ∀ (f : Nat), turn [8, 9, 10, 11, 12] (.nm 8) b_law_symbols_3 (.int (f : Int)) E0 T = match (List.range 31).findSome? (g f) with | some d => .ret d T | none => .next E0 T := fun f => by
    have q := for_find (dead := [9, 10, 11, 12]) (tg := .nm 9) (body := b_law_symbols_2) (e := E f) (S := T) (ys := (List.range 31).map fun k : Nat => D.int (k : Int)) (fun k : Nat => D.int (k : Int)) (g f) (List.range 31) fun s _ => inner f s
    simp only [E] at q
    simp only [turn, b_law_symbols_3, E0, goS]
    rw [forR1 (n := 31) rfl (by decide), rng_map, q]
    cases (List.range 31).findSome? (g f) with
    | some d => simp only [goS]
    | none => simp only [goS]
  have res : (List.range 31).findSome? (fun f : Nat => (List.range 31).findSome? (g f)) = some (.lst (F.map D.int)) := by
    have one : ∀ f : Nat, f < 31 → ∀ d, (List.range 31).findSome? (g f) = some d → d = .lst (F.map D.int) := fun f hf d hd => by
      obtain ⟨s, hs, e⟩ := List.exists_of_findSome?_eq_some hd
      have hs := List.mem_range.mp hs
      simp only [g] at e
      split at e
      · rename_i hp
        cases e
        rw [uq f s (by omega) (by omega) (by omega) (by omega) hp]
      · cases e
    obtain ⟨m0, e0⟩ := Int.eq_ofNat_of_zero_le b0.1
    obtain ⟨n0, e1⟩ := Int.eq_ofNat_of_zero_le b1.1
    refine find_one (fun f hf d hd => one f (List.mem_range.mp hf) d hd) ⟨m0, List.mem_range.mpr (by omega), ?_⟩
    rw [List.findSome?_isSome_iff]
    refine ⟨n0, List.mem_range.mpr (by omega), ?_⟩
    simp only [g]
    rw [← e0, ← e1, if_pos ex]
    rfl
  have fo := for_find (dead := [8, 9, 10, 11, 12]) (tg := .nm 8) (body := b_law_symbols_3) (e := E0) (S := T) (ys := (List.range 31).map fun k : Nat => D.int (k : Int)) (fun k : Nat => D.int (k : Int)) (fun f : Nat => (List.range 31).findSome? (g f)) (List.range 31) fun f _ => outer f
  rw [res] at fo
  have lnr : lenD [.ref S.length] T = .ok (.int (ds.length + 1 : Nat)) T := by rw [lenD_ref hat, List.length_map, xl]
  have sm : intsD (fun ns => D.int ns.sum) [.ref S.length] T = .ok (.int xs.sum) T := by
    have := intsD_map (f := fun ns => D.int ns.sum) (ns := xs) (S := T)
    unfold intsD at this ⊢
    simp only [lsOf_ref hat, lsOf_lst] at this ⊢
    exact this
  have ix : ∀ i, i < xs.length → ixD (.ref S.length) (.int (i : Nat)) T = .ok (.int (xs[i]?.getD 0)) T := fun i hi => by
    rw [ixD_ref hat, atI_cast, List.getElem?_map, List.getElem?_eq_getElem hi]
    rfl
  let E1 : En := [some (adD (st, ds)), some (.int st), none, some (.ref S.length), some (.int (ds.length + 1 : Nat)), some (.int xs.sum), none, none, none, none, none, none, none, none]
  have n1 : nLc [13] (.nm 13) (iR1 (eVar 4)) tYesD (e2 mulD (e2 ixD (eVar 3) (eVar 13)) (e2 addD (eVar 13) (eC (.int 1)))) E1 T = .ok (.lst (((List.range xs.length).map fun i : Nat => xs[i]?.getD 0 * (1 + (i : Int))).map D.int)) T := by
    refine nLcR1s (n := xs.length) (by simp only [E1, goS, xl]) (by omega) ?_
    rw [rng_map, List.map_map]
    exact lc_all (tg := .nm 13) (f := e2 mulD (e2 ixD (eVar 3) (eVar 13)) (e2 addD (eVar 13) (eC (.int 1)))) (e := E1) (S := T) (ys := (List.range xs.length).map fun k : Nat => D.int (k : Int)) (fun k : Nat => D.int (k : Int)) (fun i : Nat => D.int (xs[i]?.getD 0 * (1 + (i : Int)))) (List.range xs.length) fun i hi => ⟨E1.set 13 (some (.int (i : Nat))), rfl, by
      have fm : ∀ y, FitMul y ((i : Int) + 1) := fun y => .right (by have := List.mem_range.mp hi; omega) (by have := List.mem_range.mp hi; omega)
      simp only [E1, goS, ix i (List.mem_range.mp hi), addD_int, mulD_ok (fm _)]
      rw [Int.add_comm]⟩
  let E2 : En := [some (adD (st, ds)), some (.int st), none, some (.ref S.length), some (.int (ds.length + 1 : Nat)), some (.int xs.sum), some (.int (w1 xs)), none, none, none, none, none, none, none]
  have n2 : nLc [13] (.nm 13) (iR1 (eVar 4)) tYesD (e2 mulD (e2 mulD (e2 ixD (eVar 3) (eVar 13)) (e2 addD (eVar 13) (eC (.int 1)))) (e2 addD (eVar 13) (eC (.int 1)))) E2 T = .ok (.lst (((List.range xs.length).map fun i : Nat => xs[i]?.getD 0 * ((1 + (i : Int)) * (1 + (i : Int)))).map D.int)) T := by
    refine nLcR1s (n := xs.length) (by simp only [E2, goS, xl]) (by omega) ?_
    rw [rng_map, List.map_map]
    exact lc_all (tg := .nm 13) (f := e2 mulD (e2 mulD (e2 ixD (eVar 3) (eVar 13)) (e2 addD (eVar 13) (eC (.int 1)))) (e2 addD (eVar 13) (eC (.int 1)))) (e := E2) (S := T) (ys := (List.range xs.length).map fun k : Nat => D.int (k : Int)) (fun k : Nat => D.int (k : Int)) (fun i : Nat => D.int (xs[i]?.getD 0 * ((1 + (i : Int)) * (1 + (i : Int))))) (List.range xs.length) fun i hi => ⟨E2.set 13 (some (.int (i : Nat))), rfl, by
      have fm : ∀ y, FitMul y ((i : Int) + 1) := fun y => .right (by have := List.mem_range.mp hi; omega) (by have := List.mem_range.mp hi; omega)
      simp only [E2, goS, ix i (List.mem_range.mp hi), addD_int, mulD_ok (fm _)]
      rw [Int.add_comm, Int.mul_assoc]⟩
  have s1 : ((List.range xs.length).map fun i : Nat => xs[i]?.getD 0 * (1 + (i : Int))).sum = w1 xs := wsum_eq (fun p => p) xs 1
  have s2 : ((List.range xs.length).map fun i : Nat => xs[i]?.getD 0 * ((1 + (i : Int)) * (1 + (i : Int)))).sum = w2 xs := wsum_eq (fun p => p * p) xs 1
  simp only [E1, T] at n1
  simp only [E2, T] at n2
  simp only [E0, T] at fo
  simp only [T] at lnr sm
  show retD .frz S (b_law_symbols [some (adD (st, ds)), none, none, none, none, none, none, none, none, none, none, none, none, none] S) = _
  have as : bindT (.tp [.nm 1, .nm 2]) (adD (st, ds)) [some (adD (st, ds)), none, none, none, none, none, none, none, none, none, none, none, none, none] = some [some (adD (st, ds)), some (.int st), some (.int (numF ds)), none, none, none, none, none, none, none, none, none, none, none] := rfl
  have q := dq [none, none, none, none, none, none, none, none, none, none]
  rw [b_law_symbols, ap_Seq, ap_Asg, ap_Var0, Res.stm_ok, as]
  simp only [goS, ap_nLst]
  rw [q]
  simp only [goS, lnr, sm, n1, intsD_map, s1, n2, s2]
  rw [forR1 (n := 31) rfl (by decide), rng_map, fo]
  simp only [goS]
  exact fin_app (by simp)
theorem rounds (ns : List Int) (c : Int) (hc0 : 0 ≤ c) (hc1 : c ≤ 100) (E : En) (hE : E[0]? = some (some (.fls (ns.map D.int)))) : ∃ m : Nat, m ≤ 200 ∧ (e2 addD (eC (.int 1)) (eCall (ii2D minI) [(eC (.int c)), (eCall lenD [(eVar 0)])])) E [] = .ok (.int (m : Nat)) [] := by
  have h1 : ii2D minI [.int c, .int (ns.length : Nat)] [] = .ok (.int (minI c (ns.length : Nat))) [] := rfl
  refine ⟨(1 + minI c (ns.length : Nat)).toNat, ?_, ?_⟩
  · unfold minI; split <;> omega
  · have hv : eVar 0 E [] = .ok (.fls (ns.map D.int)) [] := by unfold eVar; rw [hE]
    simp only [goS, hv, lenD_fls, List.length_map, h1, addD_int]
    rw [Int.toNat_of_nonneg (by unfold minI; split <;> omega)]
theorem drawnB (ns : List Int) (k : Nat) (hk : k ≤ 1000) (S : Sto) : ∃ (N : Int), F_law_big [.fls (ns.map D.int), .int (k : Nat)] S = .ok (.int N) S := by
  obtain ⟨N, _, q⟩ := big ns k hk S
  exact ⟨N, q⟩
noncomputable def mp (ls : List (List Nat)) : List D := ls.map fun l => D.str (tx l)
theorem mp_len (ls : List (List Nat)) : (mp ls).length = ls.length := by unfold mp; rw [List.length_map]
theorem mp_at {ls : List (List Nat)} {i : Nat} {f : List Nat} (h : ls[i]? = some f) : (mp ls)[i]? = some (.str (tx f)) := by unfold mp; rw [List.getElem?_map, h]; rfl
theorem mp_set (ls : List (List Nat)) (i : Nat) (f : List Nat) : (mp ls).set i (.str (tx f)) = mp (ls.set i f) := by unfold mp; rw [List.map_set]
theorem mp_gnd (ls : List (List Nat)) : gnds (mp ls) = true := gnds_map (fun _ => rfl) ls
theorem ixN_nat {n p : Nat} (h : p < n) : ixN n (p : Int) = some p := by
  unfold ixN
  rw [if_pos (by omega), if_pos (by omega)]
  simp
theorem small_log {n : Nat} (h : n < 2 ^ 11) : (n : Int).natAbs.log2 < 9000 := by
  by_cases h0 : n = 0
  · subst h0; decide
  · have : (n : Int).natAbs = n := by omega
    rw [this]
    have := (Nat.log2_lt h0).mpr h
    omega
theorem places_is {S : Sto} {k : Nat} {x : Int} (hk : k < S.length) (n m : Nat) (hn : n ≤ 1000) (hm : m ≤ n) : ∃ (ps : List Nat) (y : Int), ps.Nodup ∧ ps.length = m ∧ (∀ p ∈ ps, p < n) ∧
    F_law_places [.ref k, .int (n : Nat), .int (m : Nat)] (Dg S k x) = .ok (.lst (ps.map fun p : Nat => D.int (p : Int))) (Dg S k y) := by
  have ls : (Dg S k x).length = S.length := Dg_len
  let U : List Nat → Int → Sto := fun fr y => Dg (S ++ [.lst (fr.map fun p : Nat => D.int (p : Int))]) k y
  let E : En := [some (.ref k), some (.int (n : Nat)), some (.int (m : Nat)), some (.ref S.length), none]
  have hkS : ∀ fr : List Nat, k < (S ++ [DO.lst (fr.map fun p : Nat => D.int (p : Int))]).length := fun fr => by simp; omega
  obtain ⟨dl, T, q, ps, fr, y, e1, e2', hnd, hpl, hfl, hlt⟩ := lc_inv (tg := .nm 4) (f := eM "list" popD (eVar 3) [(eFn F_law_digit [(eVar 0), (eCall lenD [(eVar 3)])])]) (e := E) (ys := rngD 0 (m : Int))
    (fun i T acc => ∃ (ps fr : List Nat) (y : Int), acc = (ps.map fun p : Nat => D.int (p : Int)) ∧ T = U fr y ∧ (ps ++ fr).Nodup ∧ ps.length = i ∧ ps.length + fr.length = n ∧ ∀ p ∈ ps ++ fr, p < n) (rngD 0 (m : Int)) 0 (U (List.range n) x) []
    ⟨[], List.range n, x, rfl, rfl, by simpa using List.nodup_range, rfl, by simp, fun p hp => by simpa using hp⟩ (fun i T acc z hz ⟨ps, fr, y, e1, e2', hnd, hpl, hfl, hlt⟩ => by
      subst e1 e2'
      have hi := (List.getElem?_eq_some_iff.mp hz).1
      rw [rngD_len] at hi
      have f0 : 0 < fr.length := by omega
      have hat : (U fr y)[S.length]? = some (.lst (fr.map fun p : Nat => D.int (p : Int))) := Dg_last hk
      have ln : lenD [.ref S.length] (U fr y) = .ok (.int (fr.length : Nat)) (U fr y) := by rw [lenD_ref hat, List.length_map]
      have dg := dig (x := y) (m := (fr.length : Nat)) (hkS fr) (by omega) (small_log (by omega))
      have b0 : 0 ≤ y % (fr.length : Nat) := Int.emod_nonneg _ (by omega)
      have b1 : y % (fr.length : Nat) < (fr.length : Nat) := Int.emod_lt_of_pos _ (by omega)
      obtain ⟨j, hj⟩ := Int.eq_ofNat_of_zero_le b0
      have hjl : j < fr.length := by omega
      have hat2 : (U fr (y / (fr.length : Nat)))[S.length]? = some (.lst (fr.map fun p : Nat => D.int (p : Int))) := Dg_last hk
      have pp := popD_ref (i := y % (fr.length : Nat)) (n := j) (y := .int (fr[j] : Nat)) hat2 hj (by omega) (by rw [List.getElem?_map, List.getElem?_eq_getElem hjl]; rfl)
      have es : (U fr (y / (fr.length : Nat))).set S.length (.lst ((fr.map fun p : Nat => D.int (p : Int)).eraseIdx j)) = U (fr.eraseIdx j) (y / (fr.length : Nat)) := by
        show (Dg (S ++ [DO.lst (fr.map fun p : Nat => D.int (p : Int))]) k (y / (fr.length : Nat))).set S.length _ = _
        rw [Dg_setl hk]
        congr 3
        simp [List.eraseIdx_eq_take_drop_succ, List.map_take, List.map_drop]
      rw [es] at pp
      have dg' : F_law_digit [.ref k, .int (fr.length : Nat)] (U fr y) = .ok (.int (y % (fr.length : Nat))) (U fr (y / (fr.length : Nat))) := dg
      have perm : (ps ++ [fr[j]] ++ fr.eraseIdx j).Perm (ps ++ fr) := by
        rw [List.append_assoc]
        refine List.Perm.append_left _ ?_
        have e : fr = fr.take j ++ fr[j] :: fr.drop (j + 1) := by rw [← List.drop_eq_getElem_cons hjl, List.take_append_drop]
        have p1 : (fr.take j ++ fr[j] :: fr.drop (j + 1)).Perm (fr[j] :: (fr.take j ++ fr.drop (j + 1))) := List.perm_middle
        rw [← e] at p1
        rw [List.eraseIdx_eq_take_drop_succ]
        exact p1.symm
      refine ⟨_, _, _, rfl, ?_, ps ++ [fr[j]], fr.eraseIdx j, y / (fr.length : Nat), by rw [List.map_append]; rfl, rfl, perm.nodup_iff.mpr hnd, by rw [List.length_append, hpl]; rfl, ?_, fun p hp => hlt p (perm.mem_iff.mp hp)⟩
      · simp only [E, goS, if_true, ln, dg', isT_ref hat, isT_ref hat2, pp]
      · rw [List.length_append, List.length_singleton, List.length_eraseIdx_of_lt hjl]
        omega)
  subst e2'
  rw [List.nil_append] at e1
  subst e1
  rw [rngD_len] at hpl
  have lc : lcD (.nm 4) (.tmp (rngD 0 (m : Int))) tYesD (eM "list" popD (eVar 3) [(eFn F_law_digit [(eVar 0), (eCall lenD [(eVar 3)])])]) E (rngD 0 (m : Int)) (U (List.range n) x) = .ok (ps.map fun p : Nat => D.int (p : Int)) (U fr y) := q
  have n1 := nLcR1s (vs := [4]) (tg := .nm 4) (f := eVar 2) (e := E) (S := U (List.range n) x) (n := m) rfl (by omega) lc
  refine ⟨ps, y, (List.nodup_append.mp hnd).1, by omega, fun p hp => hlt p (List.mem_append_left _ hp), ?_⟩
  have r1 : nRg1 (eVar 1) [some (.ref k), some (.int (n : Nat)), some (.int (m : Nat)), none, none] (Dg S k x) = .ok (.lst (rngD 0 (n : Nat))) (Dg S k x) := nRg1_ok rfl (by omega) (by omega)
  have eU : Dg S k x ++ [DO.lst (rngD 0 (n : Int))] = U (List.range n) x := by
    rw [rng_map, Dg_app hk]
  simp only [E] at n1
  simp only [F_law_places, runD, b_law_places, go0, goS, r1, ls, eU, n1]
  show fin .frz (Dg S k x) _ (Dg (S ++ [DO.lst (fr.map fun p : Nat => D.int (p : Int))]) k y) = _
  rw [← Dg_app hk]
  exact fin_dg hk (gnds_map (fun _ => rfl) _)
noncomputable def bitO (n j : Nat) : Bool := decide (Builtin.bitAnd ((n : Int) / 2 ^ j) 1 = 1)
theorem bit_some : ∀ n < 32, n ≠ 0 → ∃ j, j < 5 ∧ bitO n j = true := by decide +kernel
noncomputable def bentF (f : List Nat) (n : Nat) : List Nat := if n = 0 then [108, 108, 108, 108, 108] else (List.range 5).map fun j => if bitO n j = true then 63 else f[j]?.getD 0
theorem bentF_len (f : List Nat) (n : Nat) : (bentF f n).length = 5 := by
  unfold bentF
  split
  · rfl
  · rw [List.length_map, List.length_range]
theorem bentF_bar {f : List Nat} (hf : f.length = 5) (hb : ∀ c ∈ f, Bar c) (n : Nat) : ∀ c ∈ bentF f n, Bar c := fun c hc => by
  unfold bentF at hc
  split at hc
  · simp only [List.mem_cons, List.not_mem_nil, or_false] at hc
    exact .inl (by omega)
  · obtain ⟨j, hj, rfl⟩ := List.mem_map.mp hc
    have hj := List.mem_range.mp hj
    split
    · exact .inr (.inr rfl)
    · rw [List.getElem?_eq_getElem (by omega : j < f.length)]
      exact hb _ (List.getElem_mem _)
theorem bentF_sym {f : List Nat} {n : Nat} (hn : n < 32) : symO (bentF f n) = none := by
  unfold bentF
  by_cases h0 : n = 0
  · rw [if_pos h0]
    decide +kernel
  · rw [if_neg h0]
    obtain ⟨j, hj, hb⟩ := bit_some n hn h0
    unfold symO
    rw [if_pos]
    exact List.mem_map.mpr ⟨j, List.mem_range.mpr hj, by rw [if_pos hb]⟩
theorem lawvalue_is (S : Sto) (f : List Nat) (hf : ∀ c ∈ f, Bar c) : F_law_value [.str (tx f)] S = .ok (.int (valB f 0)) S := by
  have lp : ∀ (cs : List Nat) (acc : Int) (ys : List D), (∀ c ∈ cs, Bar c) → forD [2] (.nm 2) (.tmp ys) b_law_value_1 (cs.map fun c => D.str (tx [c])) [some (.str (tx f)), some (.int acc), none] S = .next [some (.str (tx f)), some (.int (valB cs acc)), none] S := by
    intro cs
    induction cs with
    | nil => intro acc ys _; exact forD_nil trivial
    | cons c cs ih =>
      intro acc ys hb
      have hc := hb c List.mem_cons_self
      have e2' : eqD false (.str (tx [c])) (.str (tx [108])) S = .ok (.bl (decide (c = 108))) S := by
        rw [tx_eqF (asc1 hc.lt) (asc1 (by decide))]
        simp
      have fm : FitMul 2 acc := .left (by decide) (by decide)
      rw [List.map_cons, forD_cons (src := .tmp _) trivial]
      have t : turn [2] (.nm 2) b_law_value_1 (.str (tx [c])) [some (.str (tx f)), some (.int acc), none] S = .next [some (.str (tx f)), some (.int (2 * acc + if c = 108 then 1 else 0)), none] S := by
        by_cases h8 : c = 108
        · have p8 := decide_eq_true h8
          rw [if_pos h8]
          simp only [turn, b_law_value_1, goS, s_l, e2', p8, if_true, mulD_ok fm, int1_bl, addD_int]
        · have p8 := decide_eq_false h8
          rw [if_neg h8]
          simp only [turn, b_law_value_1, goS, s_l, e2', p8, Bool.false_eq_true, if_false, mulD_ok fm, int1_bl, addD_int]
      rw [t]
      simp only
      rw [ih _ ys fun d hd => hb d (List.mem_cons_of_mem _ hd)]
      rfl
  simp only [F_law_value, runD, b_law_value, go0, goS]
  rw [forTx (x := tx f) rfl, tx_signs, lp f 0 _ hf]
  simp only [goS]
  exact fin_same rfl
theorem val_fv_n : ∀ n < 31, valB (fv ((n : Nat) : Int)) 0 = (n : Int) := by decide +kernel
theorem val_fv {s : Int} (h0 : 0 ≤ s) (h1 : s < 31) : valB (fv s) 0 = s := by
  obtain ⟨n, rfl⟩ := Int.eq_ofNat_of_zero_le h0
  exact val_fv_n n (by omega)
/-- what becomes of the places -/
structure Bent (F : List Int) (wr lo : List Nat) (made : List (List Nat)) : Prop where
  len : made.length = F.length
  nd : (wr ++ lo).Nodup
  lt : ∀ p ∈ wr ++ lo, p < F.length
  wrong : ∀ p ∈ wr, ∃ v : Int, 0 ≤ v ∧ v < 31 ∧ some v ≠ F[p]? ∧ made[p]? = some (fv v)
  lost : ∀ p ∈ lo, ∃ f : List Nat, f.length = 5 ∧ (∀ c ∈ f, Bar c) ∧ symO f = none ∧ made[p]? = some f
  rest : ∀ p, p ∉ wr → p ∉ lo → made[p]? = F[p]?.map fv
theorem fv_Bar (s : Int) : ∀ c ∈ fv s, Bar c := fun c hc => by
  rcases fv_bar s c hc with h | h
  · exact .inl h
  · exact .inr (.inl h)
theorem bent_is {S : Sto} {k : Nat} {x : Int} (hk : k < S.length) (F : List Int) (hF : ∀ s ∈ F, 0 ≤ s ∧ s < 31) (hn : F.length ≤ 100) (w u : Nat) (hwu : w + u ≤ F.length) : ∃ (wr lo : List Nat) (made : List (List Nat)) (y : Int), wr.length = w ∧ lo.length = u ∧ Bent F wr lo made ∧
    F_law_bent [.ref k, .lst (mp (F.map fv)), .int (w : Nat), .int (u : Nat)] (Dg S k x) = .ok (.lst (mp made)) (Dg S k y) := by
  let U : List (List Nat) → Int → Sto := fun md y => Dg (S ++ [.lst (mp md)]) k y
  have hkS : ∀ md : List (List Nat), k < (S ++ [DO.lst (mp md)]).length := fun fr => by simp; omega
  obtain ⟨ps, y0, pnd, pl, plt, pq⟩ := places_is (S := S ++ [.lst (mp (F.map fv))]) (k := k) (x := x) (hkS _) F.length (w + u) (by omega) hwu
  let E : En := [some (.ref k), some (.lst (mp (F.map fv))), some (.int (w : Nat)), some (.int (u : Nat)), some (.ref S.length), some (.lst (ps.map fun p : Nat => D.int (p : Int))), none, none, none]
  have hat : ∀ md y, (U md y)[S.length]? = some (.lst (mp md)) := fun md y => Dg_last hk
  have hset : ∀ md y p f, (U md y).set S.length (.lst ((mp md).set p (.str (tx f)))) = U (md.set p f) y := fun md y p f => by
    show (Dg (S ++ [DO.lst (mp md)]) k y).set S.length _ = _
    rw [Dg_setl hk, mp_set]
  have hst : ∀ (md : List (List Nat)) (y : Int) (p : Nat) (f : List Nat), p < md.length → stD (.ref S.length) (.int (p : Int)) (.str (tx f)) (U md y) = some (U (md.set p f) y) := fun md y p f hp => by
    rw [stD_lst (hat md y) (n := p) (by rw [mp_len]; exact ixN_nat hp), hset]
  have hix : ∀ (md : List (List Nat)) (y : Int) (p : Nat) (f : List Nat), md[p]? = some f → ixD (.ref S.length) (.int (p : Int)) (U md y) = .ok (.str (tx f)) (U md y) := fun md y p f hp => by
    rw [ixD_ref (hat md y), atI_cast, mp_at hp]
    rfl
  have dg : ∀ (md : List (List Nat)) (y m : Int), 0 < m → m.natAbs.log2 < 9000 → F_law_digit [.ref k, .int m] (U md y) = .ok (.int (y % m)) (U md (y / m)) := fun md y m h0 h1 => dig (hkS md) h0 h1
  -- the wrong ones
  have lp1 : ∀ (rs : List Nat) (md : List (List Nat)) (y : Int) (ys : List D), rs.Nodup → md.length = F.length → (∀ p ∈ rs, p < F.length ∧ md[p]? = F[p]?.map fv) → ∃ md' y', forD [6] (.nm 6) (.tmp ys) b_law_bent_1 (rs.map fun p : Nat => D.int (p : Int)) E (U md y) = .next E (U md' y') ∧
      md'.length = F.length ∧ (∀ p, p ∉ rs → md'[p]? = md[p]?) ∧ ∀ p ∈ rs, ∃ v : Int, 0 ≤ v ∧ v < 31 ∧ some v ≠ F[p]? ∧ md'[p]? = some (fv v) := by
    intro rs
    induction rs with
    | nil => intro md y ys _ hl _; exact ⟨md, y, forD_nil trivial, hl, fun _ _ => rfl, fun p hp => absurd hp List.not_mem_nil⟩
    | cons p rs ih =>
      intro md y ys hnd hl hp
      rw [List.nodup_cons] at hnd
      obtain ⟨hpl, hpm⟩ := hp p List.mem_cons_self
      have hpF : F[p]? = some F[p] := List.getElem?_eq_getElem hpl
      rw [hpF, Option.map_some] at hpm
      have hs := hF _ (List.getElem_mem hpl)
      have vl := lawvalue_is (U md y) (fv F[p]) (fv_Bar _)
      rw [val_fv hs.1 hs.2] at vl
      have b0 : 0 ≤ y % 30 := Int.emod_nonneg _ (by decide)
      have b1 : y % 30 < 30 := Int.emod_lt_of_pos _ (by decide)
      have md1 : ∀ T, modD (.int (F[p] + 1 + y % 30)) (.int 31) T = .ok (.int ((F[p] + 1 + y % 30) % 31)) T := fun T => modD_pos (by decide)
      generalize hv : (F[p] + 1 + y % 30) % 31 = v at md1
      have t : turn [6] (.nm 6) b_law_bent_1 (.int (p : Int)) E (U md y) = .next E (U (md.set p (fv v)) (y / 30)) := by
        simp only [E, turn, b_law_bent_1, goS, hix md y p _ hpm, vl, addD_int, dg md y 30 (by decide) (by decide +kernel), md1, lawbars_is, hst md (y / 30) p (fv v) (by omega)]
      obtain ⟨md', y', q, l', r', w'⟩ := ih (md.set p (fv v)) (y / 30) ys hnd.2 (by rw [List.length_set]; exact hl) (fun z hz => by
        refine ⟨(hp z (List.mem_cons_of_mem _ hz)).1, ?_⟩
        rw [List.getElem?_set_ne (fun e => hnd.1 (by rw [e]; exact hz))]
        exact (hp z (List.mem_cons_of_mem _ hz)).2)
      refine ⟨md', y', ?_, l', fun z hz => ?_, fun z hz => ?_⟩
      · rw [List.map_cons, forD_cons (src := .tmp _) trivial, t]
        exact q
      · rw [List.mem_cons, not_or] at hz
        rw [r' z hz.2, List.getElem?_set_ne (fun e => hz.1 e.symm)]
      · rcases List.mem_cons.mp hz with rfl | hz
        · refine ⟨v, by omega, by omega, fun e => ?_, ?_⟩
          · rw [hpF] at e
            have := Option.some.inj e
            omega
          · rw [r' z hnd.1, List.getElem?_set_self (by omega)]
        · exact w' z hz
  -- the lost ones
  have lp2 : ∀ (rs : List Nat) (md : List (List Nat)) (y : Int) (ys : List D), rs.Nodup → md.length = F.length → (∀ p ∈ rs, p < F.length ∧ md[p]? = F[p]?.map fv) → ∃ md' y', forD [6, 7] (.nm 6) (.tmp ys) b_law_bent_2 (rs.map fun p : Nat => D.int (p : Int)) E (U md y) = .next E (U md' y') ∧
      md'.length = F.length ∧ (∀ p, p ∉ rs → md'[p]? = md[p]?) ∧ ∀ p ∈ rs, ∃ f : List Nat, f.length = 5 ∧ (∀ c ∈ f, Bar c) ∧ symO f = none ∧ md'[p]? = some f := by
    intro rs
    induction rs with
    | nil => intro md y ys _ hl _; exact ⟨md, y, forD_nil trivial, hl, fun _ _ => rfl, fun p hp => absurd hp List.not_mem_nil⟩
    | cons p rs ih =>
      intro md y ys hnd hl hp
      rw [List.nodup_cons] at hnd
      obtain ⟨hpl, hpm⟩ := hp p List.mem_cons_self
      have hpF : F[p]? = some F[p] := List.getElem?_eq_getElem hpl
      rw [hpF, Option.map_some] at hpm
      have b0 : 0 ≤ y % 32 := Int.emod_nonneg _ (by decide)
      have b1 : y % 32 < 32 := Int.emod_lt_of_pos _ (by decide)
      have dg32 := dg md y 32 (by decide) (by decide +kernel)
      obtain ⟨n, hn⟩ := Int.eq_ofNat_of_zero_le b0
      rw [hn] at dg32 b1
      have hn32 : n < 32 := by omega
      let E1 : En := [some (.ref k), some (.lst (mp (F.map fv))), some (.int (w : Nat)), some (.int (u : Nat)), some (.ref S.length), some (.lst (ps.map fun p : Nat => D.int (p : Int))), some (.int (p : Int)), some (.int (n : Int)), none]
      have t : turn [6, 7] (.nm 6) b_law_bent_2 (.int (p : Int)) E (U md y) = .next E (U (md.set p (bentF (fv F[p]) n)) (y / 32)) := by
        by_cases h0 : n = 0
        · have p0 : decide ((n : Int) = 0) = true := decide_eq_true (by omega)
          have s5 : Str.ofString "lllll" = tx [108, 108, 108, 108, 108] := by decide +kernel
          have eb : bentF (fv F[p]) n = [108, 108, 108, 108, 108] := if_pos h0
          simp only [E, turn, b_law_bent_2, goS, dg32, eqD_int, p0, if_true, s5, hst md (y / 32) p [108, 108, 108, 108, 108] (by omega), eb]
        · have p0 : decide ((n : Int) = 0) = false := decide_eq_false (by omega)
          have eb : bentF (fv F[p]) n = (List.range 5).map fun j => if bitO n j = true then 63 else (fv F[p])[j]?.getD 0 := if_neg h0
          have lc : lcD (.nm 8) (.tmp (rngD 0 ((5 : Nat) : Int))) tYesD (eIf (eTB (e2 (eqD false) (e2 bitAndD (e2 shrD (eVar 7) (eVar 8)) (eC (.int 1))) (eC (.int 1)))) (eC (.str "?")) (e2 ixD (e2 ixD (eVar 4) (eVar 6)) (eVar 8))) E1 (rngD 0 ((5 : Nat) : Int)) (U md (y / 32)) = .ok (((List.range 5).map fun j => [if bitO n j = true then 63 else (fv F[p])[j]?.getD 0]).map fun l => D.str (tx l)) (U md (y / 32)) := by
            rw [rng_map, List.map_map]
            exact lc_all (tg := .nm 8) (f := eIf (eTB (e2 (eqD false) (e2 bitAndD (e2 shrD (eVar 7) (eVar 8)) (eC (.int 1))) (eC (.int 1)))) (eC (.str "?")) (e2 ixD (e2 ixD (eVar 4) (eVar 6)) (eVar 8))) (e := E1) (S := U md (y / 32)) (ys := (List.range 5).map fun k : Nat => D.int (k : Int)) (fun k : Nat => D.int (k : Int)) (fun j => D.str (tx [if bitO n j = true then 63 else (fv F[p])[j]?.getD 0])) (List.range 5) fun j hj => ⟨E1.set 8 (some (.int (j : Int))), rfl, by
              have hj := List.mem_range.mp hj
              have sh : shrD (.int (n : Int)) (.int (j : Int)) (U md (y / 32)) = .ok (.int ((n : Int) / 2 ^ j)) (U md (y / 32)) := by
                show (if 0 ≤ (j : Int) then Res.ok (D.int ((n : Int) / 2 ^ ((j : Int)).toNat)) (U md (y / 32)) else .bad) = _
                rw [if_pos (Int.natCast_nonneg j), Int.toNat_natCast]
              have ba : ∀ a, bitAndD (.int a) (.int 1) (U md (y / 32)) = .ok (.int (Builtin.bitAnd a 1)) (U md (y / 32)) := fun a => rfl
              by_cases hb : bitO n j = true
              · have hb' : decide (Builtin.bitAnd ((n : Int) / 2 ^ j) 1 = 1) = true := hb
                rw [if_pos hb]
                simp only [E1, goS, sh, ba, eqD_int, hb', if_true, s_q]
              · have hb' : decide (Builtin.bitAnd ((n : Int) / 2 ^ j) 1 = 1) = false := by
                  cases hh : decide (Builtin.bitAnd ((n : Int) / 2 ^ j) 1 = 1) with
                  | false => rfl
                  | true => exact absurd hh hb
                rw [if_neg hb]
                have x2 := tx_ix (a := fv F[p]) (U md (y / 32)) (by rw [fv_len]; omega) (j := (j : Int)) (c := (fv F[p])[j]?.getD 0) (by rw [atI_cast, List.getElem?_eq_getElem (by rw [fv_len]; omega)]; rfl)
                simp only [E1, goS, sh, ba, eqD_int, hb', Bool.false_eq_true, if_false, hix md (y / 32) p _ hpm, x2]⟩
          have n1 := nLcR1s (vs := [8]) (tg := .nm 8) (f := eC (.int 5)) (e := E1) (S := U md (y / 32)) (n := 5) rfl (by omega) lc
          have jn := joinD_tx (S := U md (y / 32)) (ls := (List.range 5).map fun j => [if bitO n j = true then 63 else (fv F[p])[j]?.getD 0]) (by rw [List.map_map]; exact (by decide : ((List.range 5).map fun _ => 1).sum ≤ 16777216))
          have fl : ((List.range 5).map fun j => [if bitO n j = true then 63 else (fv F[p])[j]?.getD 0]).flatten = bentF (fv F[p]) n := by rw [eb]; rfl
          rw [fl] at jn
          simp only [E1] at n1
          simp only [E, turn, b_law_bent_2, goS, dg32, eqD_int, p0, Bool.false_eq_true, if_false, n1, s_0, isT_str, if_true, jn, hst md (y / 32) p (bentF (fv F[p]) n) (by omega)]
      obtain ⟨md', y', q, l', r', w'⟩ := ih (md.set p (bentF (fv F[p]) n)) (y / 32) ys hnd.2 (by rw [List.length_set]; exact hl) (fun z hz => by
        refine ⟨(hp z (List.mem_cons_of_mem _ hz)).1, ?_⟩
        rw [List.getElem?_set_ne (fun e => hnd.1 (by rw [e]; exact hz))]
        exact (hp z (List.mem_cons_of_mem _ hz)).2)
      refine ⟨md', y', ?_, l', fun z hz => ?_, fun z hz => ?_⟩
      · rw [List.map_cons, forD_cons (src := .tmp _) trivial, t]
        exact q
      · rw [List.mem_cons, not_or] at hz
        rw [r' z hz.2, List.getElem?_set_ne (fun e => hz.1 e.symm)]
      · rcases List.mem_cons.mp hz with rfl | hz
        · exact ⟨bentF (fv F[z]) n, bentF_len _ _, bentF_bar (fv_len _) (fv_Bar _) n, bentF_sym hn32, by rw [r' z hnd.1, List.getElem?_set_self (by omega)]⟩
        · exact w' z hz
  have hnd2 : (ps.take w ++ ps.drop w).Nodup := by rw [List.take_append_drop]; exact pnd
  obtain ⟨nd1, nd2, nd3⟩ := List.nodup_append.mp hnd2
  have init : ∀ p, (F.map fv)[p]? = F[p]?.map fv := fun p => List.getElem?_map
  obtain ⟨md1, y1, q1, l1, r1, w1⟩ := lp1 (ps.take w) (F.map fv) y0 ((ps.take w).map fun p : Nat => D.int (p : Int)) nd1 (by rw [List.length_map]) fun p hp => ⟨plt p (List.mem_of_mem_take hp), init p⟩
  obtain ⟨md2, y2, q2, l2, r2, w2⟩ := lp2 (ps.drop w) md1 y1 ((ps.drop w).map fun p : Nat => D.int (p : Int)) nd2 l1 fun p hp => ⟨plt p (List.mem_of_mem_drop hp), by rw [r1 p fun hq => nd3 p hq p hp rfl]; exact init p⟩
  refine ⟨ps.take w, ps.drop w, md2, y2, by rw [List.length_take]; omega, by rw [List.length_drop]; omega, ⟨l2, hnd2, fun p hp => plt p (by rw [List.take_append_drop] at hp; exact hp), fun p hp => ?_, w2, fun p h1 h2 => ?_⟩, ?_⟩
  · obtain ⟨v, a, b, c, d⟩ := w1 p hp
    exact ⟨v, a, b, c, by rw [r2 p fun hq => nd3 p hp p hq rfl]; exact d⟩
  · rw [r2 p h2, r1 p h1, init]
  · have ln : ∀ T, lenD [.lst (mp (F.map fv))] T = .ok (.int (F.length : Nat)) T := fun T => by rw [lenD_lst, mp_len, List.length_map]
    have nl : nListOf (eVar 1) [some (.ref k), some (.lst (mp (F.map fv))), some (.int (w : Nat)), some (.int (u : Nat)), none, none, none, none, none] (Dg S k x) = .ok (.lst (mp (F.map fv))) (Dg S k x) := by
      unfold nListOf
      simp only [goS]
      rfl
    have lS : (Dg S k x).length = S.length := Dg_len
    have eU : Dg S k x ++ [DO.lst (mp (F.map fv))] = U (F.map fv) x := Dg_app hk
    have pq' : F_law_places [.ref k, .int (F.length : Nat), .int ((w : Int) + (u : Int))] (U (F.map fv) x) = .ok (.lst (ps.map fun p : Nat => D.int (p : Int))) (U (F.map fv) y0) := pq
    have s1 : ∀ T, slD (.lst (ps.map fun p : Nat => D.int (p : Int))) none (some (w : Int)) T = .ok (.lst ((ps.take w).map fun p : Nat => D.int (p : Int))) T := fun T => by rw [slD_lst, cut_to, List.map_take]
    have s2 : ∀ T, slD (.lst (ps.map fun p : Nat => D.int (p : Int))) (some (w : Int)) none T = .ok (.lst ((ps.drop w).map fun p : Nat => D.int (p : Int))) T := fun T => by rw [slD_lst, cut_from, List.map_drop]
    simp only [E] at q1 q2
    simp only [F_law_bent, runD, b_law_bent, go0, goS, nl, lS, eU, ln, addD_int, pq']
    rw [forS_lst (xs := (ps.take w).map fun p : Nat => D.int (p : Int)) (by simp only [goS, s1]), q1]
    simp only [goS]
    rw [forS_lst (xs := (ps.drop w).map fun p : Nat => D.int (p : Int)) (by simp only [goS, s2]), q2]
    simp only [goS]
    exact fin_dgR hk rfl (mp_gnd _)
theorem Bent.each {F : List Int} {wr lo : List Nat} {made : List (List Nat)} (h : Bent F wr lo made) : ∀ f ∈ made, f.length = 5 ∧ ∀ c ∈ f, Bar c := fun f hf => by
  obtain ⟨i, hi, e⟩ := List.getElem_of_mem hf
  have hm : made[i]? = some f := by rw [List.getElem?_eq_getElem hi, e]
  by_cases h1 : i ∈ wr
  · obtain ⟨v, _, _, _, q⟩ := h.wrong i h1
    rw [q] at hm
    cases hm
    exact ⟨fv_len v, fv_Bar v⟩
  · by_cases h2 : i ∈ lo
    · obtain ⟨g, a, b, _, q⟩ := h.lost i h2
      rw [q] at hm
      cases hm
      exact ⟨a, b⟩
    · rw [h.rest i h1 h2, Option.map_eq_some_iff] at hm
      obtain ⟨s, _, rfl⟩ := hm
      exact ⟨fv_len s, fv_Bar s⟩
theorem Bent.flat {F : List Int} {wr lo : List Nat} {made : List (List Nat)} (h : Bent F wr lo made) : made.flatten.length = F.length * 5 := by
  rw [flat5 fun f hf => (h.each f hf).1, h.len]
theorem Bent.sum {F : List Int} {wr lo : List Nat} {made : List (List Nat)} (h : Bent F wr lo made) : (made.map List.length).sum = F.length * 5 := by
  rw [← h.flat, List.length_flatten]
theorem fives_lc (ns : D) (a : Sa) (hA : SaOk a) (S : Sto) (e : En) (i j : Nat) (hi : e[i]? = some (some (adD a))) (hj : j < e.length) (hij : i ≠ j) : nLc [j] (.nm j) (iS (eFn F_law_symbols [(eVar i)])) tYesD (eFn F_law_bars [(eVar j)]) e S = .ok (.lst (mp ((symL a).map fv))) S := by
  have ls := lawsym_is S a hA
  have sl := symL_len a
  have l2 := hA.l2
  have lc : lcD (.nm j) (.tmp ((symL a).map D.int)) tYesD (eFn F_law_bars [(eVar j)]) (wipeE e [j]) ((symL a).map D.int) S = .ok (mp ((symL a).map fv)) S := by
    unfold mp
    rw [List.map_map]
    exact lc_all (tg := .nm j) (f := eFn F_law_bars [(eVar j)]) (e := wipeE e [j]) (S := S) (ys := (symL a).map D.int) D.int (fun s => D.str (tx (fv s))) (symL a) fun s _ => ⟨(wipeE e [j]).set j (some (.int s)), rfl, by
      have hv : eVar j ((e.set j none).set j (some (.int s))) S = .ok (.int s) S := by
        unfold eVar
        rw [List.getElem?_set_self (by rw [List.length_set]; exact hj)]
      simp only [goS, hv, lawbars_is]⟩
  have hv : eVar i e S = .ok (adD a) S := by
    unfold eVar
    rw [hi]
  exact nLcS_lst (vs := [j]) (tg := .nm j) (f := eFn F_law_symbols [(eVar i)]) (e := e) (S := S) (xs := (symL a).map D.int) (by simp only [goS, hv, ls]) (by rw [List.length_map]; omega) lc
theorem joinD_mp {S : Sto} {ls : List (List Nat)} (h : (ls.map List.length).sum ≤ 16777216) : joinD (.str (tx [])) [.lst (mp ls)] S = .ok (.str (tx ls.flatten)) S := joinD_tx h
noncomputable def w31 (ws : List (List Int)) (n : Nat) : List (List Int) := (List.range n).flatMap fun o : Nat => ws.map fun w => w ++ [(o : Int)]
noncomputable def waysN : Nat → List (List Int)
  | 0 => [[]]
  | n + 1 => w31 (waysN n) 31
theorem waysN_mem : ∀ (n : Nat) (w : List Int), w ∈ waysN n ↔ w.length = n ∧ ∀ x ∈ w, 0 ≤ x ∧ x < 31
  | 0, w => by
    constructor
    · intro h
      rw [List.mem_singleton.mp h]
      exact ⟨rfl, fun x hx => absurd hx List.not_mem_nil⟩
    · intro h
      rw [List.length_eq_zero_iff.mp h.1]
      exact List.mem_singleton.mpr rfl
  | n + 1, w => by
    show w ∈ w31 (waysN n) 31 ↔ _
    unfold w31
    rw [List.mem_flatMap]
    constructor
    · rintro ⟨o, ho, hw⟩
      obtain ⟨v, hv, rfl⟩ := List.mem_map.mp hw
      obtain ⟨h1, h2⟩ := (waysN_mem n v).mp hv
      have ho := List.mem_range.mp ho
      refine ⟨by simp [h1], fun x hx => ?_⟩
      rcases List.mem_append.mp hx with hx | hx
      · exact h2 x hx
      · rw [List.mem_singleton.mp hx]; omega
    · rintro ⟨h1, h2⟩
      rcases List.eq_nil_or_concat w with e | ⟨v, y, e⟩
      · rw [e] at h1; cases h1
      · rw [List.concat_eq_append] at e
        subst e
        have hy := h2 y (by simp)
        rw [List.length_append, List.length_singleton] at h1
        refine ⟨y.toNat, List.mem_range.mpr (by omega), List.mem_map.mpr ⟨v, (waysN_mem n v).mpr ⟨by omega, fun x hx => h2 x (by simp [hx])⟩, ?_⟩⟩
        rw [show ((y.toNat : Nat) : Int) = y by omega]
theorem w31_len (ws : List (List Int)) : ∀ n : Nat, (w31 ws n).length = n * ws.length
  | 0 => by simp [w31]
  | n + 1 => by
    have := w31_len ws n
    unfold w31 at this ⊢
    rw [List.range_succ, List.flatMap_append, List.length_append, this]
    simp [Nat.succ_mul]
noncomputable def putW : List Int → List Nat → List Int → List Int
  | xs, p :: ps, v :: vs => putW (xs.set p v) ps vs
  | xs, _, _ => xs
theorem putW_len : ∀ (ps : List Nat) (xs vs : List Int), (putW xs ps vs).length = xs.length
  | [], _, _ => by unfold putW; rfl
  | _ :: _, _, [] => by unfold putW; rfl
  | p :: ps, xs, v :: vs => by
    unfold putW
    rw [putW_len ps, List.length_set]
theorem putW_out : ∀ (ps : List Nat) (xs vs : List Int) (m : Nat), m ∉ ps → (putW xs ps vs)[m]? = xs[m]?
  | [], _, _, _, _ => by unfold putW; rfl
  | _ :: _, _, [], _, _ => by unfold putW; rfl
  | p :: ps, xs, v :: vs, m, h => by
    unfold putW
    rw [putW_out ps _ vs m fun z => h (List.mem_cons_of_mem _ z), List.getElem?_set_ne fun e => h (by rw [e]; exact List.mem_cons_self)]
theorem putW_rg : ∀ (ps : List Nat) (xs vs : List Int), Rg xs → (∀ v ∈ vs, 0 ≤ v ∧ v < 31) → Rg (putW xs ps vs)
  | [], _, _, h, _ => by unfold putW; exact h
  | _ :: _, _, [], h, _ => by unfold putW; exact h
  | p :: ps, xs, v :: vs, h, hv => by
    unfold putW
    refine putW_rg ps _ vs (fun x hx => ?_) fun y hy => hv y (List.mem_cons_of_mem _ hy)
    rcases List.mem_or_eq_of_mem_set hx with hx | hx
    · exact h x hx
    · rw [hx]; exact hv v List.mem_cons_self
theorem putW_at (g : Nat → Int) : ∀ (ps : List Nat) (xs : List Int) (m : Nat), ps.Nodup → m ∈ ps → m < xs.length → (putW xs ps (ps.map g))[m]? = some (g m)
  | p :: ps, xs, m, hn, hm, hl => by
    rw [List.nodup_cons] at hn
    rw [List.map_cons]
    unfold putW
    by_cases h : m ∈ ps
    · exact putW_at g ps _ m hn.2 h (by rw [List.length_set]; exact hl)
    · rw [putW_out ps _ _ m h]
      rcases List.mem_cons.mp hm with rfl | hm
      · rw [List.getElem?_set_self hl]
      · exact absurd hm h
noncomputable def lastW (m : List Int) (p0 : Nat) : List Int := (m.set p0 0).set p0 ((0 - (m.set p0 0).sum) % 31)
noncomputable def madeW (xs : List Int) (free : List Nat) (way : List Int) : List Int := match free with
  | [] => xs
  | p0 :: ps => lastW (putW xs ps way) p0
noncomputable def zsB (t : List Int) : Bool := decide (w0 t % 31 = 0 ∧ w1 t % 31 = 0 ∧ w2 t % 31 = 0)
noncomputable def filledL (xs : List Int) (free : List Nat) : List (List Int) := ((waysN (free.length - 1)).map (madeW xs free)).filter zsB
theorem made_len (xs : List Int) (free : List Nat) (way : List Int) : (madeW xs free way).length = xs.length := by
  cases free with
  | nil => rfl
  | cons p ps =>
    show (lastW _ _).length = _
    unfold lastW
    rw [List.length_set, List.length_set, putW_len]
theorem filled_mend {xs : List Int} (hx : Wd xs) {free : List Nat} (hf : Fr xs.length free) {t : List Int} (h : t ∈ filledL xs free) : mendO xs free = some t := by
  unfold filledL at h
  obtain ⟨h1, h2⟩ := List.mem_filter.mp h
  obtain ⟨way, hw, rfl⟩ := List.mem_map.mp h1
  obtain ⟨w1', w2'⟩ := (waysN_mem _ way).mp hw
  have hz := of_decide_eq_true h2
  refine mend_of hx hf (made_len xs free way) ?_ ⟨hz.1, hz.2.1, hz.2.2⟩ ?_
  · cases free with
    | nil => exact hx.rg
    | cons p ps =>
      have r0 := putW_rg ps xs way hx.rg w2'
      intro x hx'
      have hx' : x ∈ lastW (putW xs ps way) p := hx'
      unfold lastW at hx'
      rcases List.mem_or_eq_of_mem_set hx' with hx' | hx'
      · rcases List.mem_or_eq_of_mem_set hx' with hx' | hx'
        · exact r0 x hx'
        · rw [hx']; decide
      · rw [hx']; omega
  · cases free with
    | nil => exact fun m _ => rfl
    | cons p ps =>
      intro m hm
      show (lastW (putW xs ps way) p)[m]? = _
      unfold lastW
      have hp : p ≠ m := fun e => hm (by rw [e]; exact List.mem_cons_self)
      rw [List.getElem?_set_ne hp, List.getElem?_set_ne hp, putW_out ps xs way m fun z => hm (List.mem_cons_of_mem _ z)]
theorem mend_filled {xs : List Int} (hx : Wd xs) {free : List Nat} (hf : Fr xs.length free) {t : List Int} (h : mendO xs free = some t) : t ∈ filledL xs free := by
  obtain ⟨t1, t2, t3, t4⟩ := mend_some hx hf h
  unfold filledL
  refine List.mem_filter.mpr ⟨?_, decide_eq_true ⟨t3.z0, t3.z1, t3.z2⟩⟩
  cases free with
  | nil =>
    refine List.mem_map.mpr ⟨[], (waysN_mem 0 []).mpr ⟨rfl, fun x hx => absurd hx List.not_mem_nil⟩, ?_⟩
    show xs = t
    exact (List.ext_getElem? fun m => t4 m List.not_mem_nil).symm
  | cons p ps =>
    have hnd := hf.nd
    rw [List.nodup_cons] at hnd
    have hp : p < xs.length := hf.lt p List.mem_cons_self
    have hpt : p < t.length := by omega
    refine List.mem_map.mpr ⟨ps.map fun q => t[q]?.getD 0, (waysN_mem _ _).mpr ⟨by simp, fun x hx' => ?_⟩, ?_⟩
    · obtain ⟨q, hq, rfl⟩ := List.mem_map.mp hx'
      have hq' : q < t.length := by rw [t1]; exact hf.lt q (List.mem_cons_of_mem _ hq)
      rw [List.getElem?_eq_getElem hq']
      exact t2.at hq'
    · show lastW (putW xs ps (ps.map fun q => t[q]?.getD 0)) p = t
      have em : (putW xs ps (ps.map fun q => t[q]?.getD 0)).set p 0 = t.set p 0 := by
        apply List.ext_getElem?
        intro m
        by_cases e : p = m
        · subst e
          rw [List.getElem?_set_self (by rw [putW_len]; exact hp), List.getElem?_set_self hpt]
        · rw [List.getElem?_set_ne e, List.getElem?_set_ne e]
          by_cases hm : m ∈ ps
          · have hm' : m < xs.length := hf.lt m (List.mem_cons_of_mem _ hm)
            rw [putW_at (fun q => t[q]?.getD 0) ps xs m hnd.2 hm hm', List.getElem?_eq_getElem (show m < t.length by omega)]
            rfl
          · rw [putW_out ps xs _ m hm, t4 m fun z => by
              rcases List.mem_cons.mp z with z | z
              · exact e z.symm
              · exact hm z]
      unfold lastW
      rw [em]
      have hs : (t.set p 0).sum = t.sum + (0 - t[p]) := by
        have := wsum_set (fun _ => 1) t 1 p 0 hpt
        rw [wsum_1, wsum_1, Int.mul_one] at this
        exact this
      have hw : t.sum % 31 = 0 := by
        have := t3.z0
        unfold w0 at this
        rw [wsum_1] at this
        exact this
      have hb := t2.at hpt
      rw [hs, List.set_set, show (0 - (t.sum + (0 - t[p]))) % 31 = t[p] by omega]
      exact List.set_getElem_self hpt
noncomputable def adQ (t : List Int) : Option (Int × Int) := if 0 < t[t.length - 4]?.getD 0 then some (t[0]?.getD 0, numF ((t.drop 1).take (t.length - 4))) else none
theorem adQ_eq {t : List Int} (h5 : 5 ≤ t.length) (hr : Rg t) : adQ t = adO t := by
  have hl : ((t.drop 1).take (t.length - 4)).getLast?.getD 0 = t[t.length - 4]?.getD 0 := by
    rw [List.getLast?_eq_getElem?, List.length_take, List.length_drop, List.getElem?_take_of_lt (by omega), List.getElem?_drop]
    congr 2
    omega
  have hb := hr.at (show t.length - 4 < t.length by omega)
  unfold adQ adO
  rw [hl, List.getElem?_eq_getElem (show t.length - 4 < t.length by omega)]
  show (if 0 < t[t.length - 4] then _ else _) = if t[t.length - 4] = 0 then _ else _
  by_cases h : t[t.length - 4] = 0
  · rw [if_pos h, if_neg (by omega)]
  · rw [if_neg h, if_pos (by omega)]
noncomputable def readQ (ss : List (Option Int)) : Option (Int × Int) := if 3 < (lostL ss).length then none else (susp (lostL ss) ss.length).findSome? fun free => (filledL (plainL ss) free).findSome? adQ
theorem susp_in {lost : List Nat} {n : Nat} {f : List Nat} (hf : f ∈ susp lost n) : (1 < lost.length ∧ f = lost) ∨ (lost.length ≤ 1 ∧ ∃ p, ∀ i ∈ f, i ∈ lost ∨ i = p) := by
  unfold susp at hf
  split at hf
  · rename_i h
    exact .inl ⟨h, List.mem_singleton.mp hf⟩
  · rename_i h
    refine .inr ⟨by omega, ?_⟩
    rcases List.mem_cons.mp hf with rfl | hf
    · exact ⟨0, fun i hi => .inl hi⟩
    · obtain ⟨p, _, rfl⟩ := List.mem_map.mp hf
      exact ⟨p, fun i hi => (List.mem_append.mp hi).imp id fun z => List.mem_singleton.mp z⟩
theorem readQ_eq {ss : List (Option Int)} (h1 : 5 ≤ ss.length) (h2 : ss.length ≤ 30) (hr : RgO ss) : readQ ss = readO ss := by
  unfold readQ readO findO
  by_cases h3 : 3 < (lostL ss).length
  · rw [if_pos h3, if_pos h3]
    rfl
  rw [if_neg h3, if_neg h3]
  have wd := plain_wd h1 h2 hr
  have pl : (plainL ss).length = ss.length := by rw [plainL, List.length_map]
  have fr : ∀ free ∈ susp (lostL ss) ss.length, Fr (plainL ss).length free := fun free hf => by
    rw [pl]
    exact (susp_fr (by omega) (lost_nodup ss) (n := ss.length) (fun i hi => (List.getElem?_eq_some_iff.mp (mem_lost.mp hi)).1) free hf).1
  -- all code words that may be meant are one
  have uni : ∀ f1 ∈ susp (lostL ss) ss.length, ∀ f2 ∈ susp (lostL ss) ss.length, ∀ t1 t2, mendO (plainL ss) f1 = some t1 → mendO (plainL ss) f2 = some t2 → t1 = t2 := fun f1 hf1 f2 hf2 t1 t2 e1 e2 => by
    obtain ⟨a1, a2, a3, a4⟩ := mend_some wd (fr f1 hf1) e1
    obtain ⟨b1, b2, b3, b4⟩ := mend_some wd (fr f2 hf2) e2
    have go : ∀ F : List Nat, F.length ≤ 3 → (∀ i ∈ f1, i ∈ F) → (∀ i ∈ f2, i ∈ F) → t1 = t2 := fun F hF s1 s2 => uniqL (by rw [a1, pl]; exact h2) (by rw [a1, b1]) a2 b2 a3 b3 (free := F) hF (by rw [a1, pl]; exact h1) fun m hm => by
      rw [a4 m fun z => hm (s1 m z), b4 m fun z => hm (s2 m z)]
    rcases susp_in hf1 with ⟨l1, rfl⟩ | ⟨l1, p, hp⟩
    · rcases susp_in hf2 with ⟨_, rfl⟩ | ⟨l2, _⟩
      · exact go _ (by omega) (fun i h => h) fun i h => h
      · omega
    · rcases susp_in hf2 with ⟨l2, _⟩ | ⟨_, q, hq⟩
      · omega
      · refine go (lostL ss ++ [p, q]) (by simp; omega) (fun i hi => ?_) fun i hi => ?_
        · rcases hp i hi with h | h
          · exact List.mem_append_left _ h
          · exact List.mem_append_right _ (by simp [h])
        · rcases hq i hi with h | h
          · exact List.mem_append_left _ h
          · exact List.mem_append_right _ (by simp [h])
  cases e : (susp (lostL ss) ss.length).findSome? (mendO (plainL ss)) with
  | none =>
    show _ = none
    refine List.findSome?_eq_none_iff.mpr fun free hf => List.findSome?_eq_none_iff.mpr fun t ht => ?_
    have := filled_mend wd (fr free hf) ht
    rw [List.findSome?_eq_none_iff.mp e free hf] at this
    cases this
  | some t =>
    obtain ⟨f0, hf0, e0⟩ := List.exists_of_findSome?_eq_some e
    show _ = adO t
    obtain ⟨a1, a2, _, _⟩ := mend_some wd (fr f0 hf0) e0
    have ad := adQ_eq (t := t) (by rw [a1, pl]; exact h1) a2
    rw [← ad]
    have all : ∀ free ∈ susp (lostL ss) ss.length, ∀ x ∈ filledL (plainL ss) free, x = t := fun free hf x hx => uni free hf f0 hf0 x t (filled_mend wd (fr free hf) hx) e0
    cases ea : adQ t with
    | none =>
      refine List.findSome?_eq_none_iff.mpr fun free hf => List.findSome?_eq_none_iff.mpr fun x hx => ?_
      rw [all free hf x hx]
      exact ea
    | some z =>
      refine find_one (fun free hf y hy => ?_) ⟨f0, hf0, ?_⟩
      · obtain ⟨x, hx, ey⟩ := List.exists_of_findSome?_eq_some hy
        rw [all free hf x hx, ea] at ey
        exact (Option.some.inj ey).symm
      · have hm := mend_filled wd (fr f0 hf0) e0
        cases q : (filledL (plainL ss) f0).findSome? adQ with
        | some y => rfl
        | none =>
          have := List.findSome?_eq_none_iff.mp q t hm
          rw [ea] at this
          cases this
theorem lc_stF {α : Type} {tg : Tg} {t : Ev Bool} {f : Ev D} {e : En} {S : Sto} {k : Nat} {ys : List D} (v : α → D) (q : α → Bool) (g : α → D) (hS : S[k]? = some (.lst ys)) : ∀ xs : List α, (∀ x ∈ xs, ∃ e1, bindT tg (v x) e = some e1 ∧ t e1 S = .ok (q x) S ∧ f e1 S = .ok (g x) S) → lcD tg (.st k ys) t f e (xs.map v) S = .ok ((xs.filter q).map g) S
  | [], _ => by
    rw [List.map_nil, lcD_nil, if_pos (show (Src.st k ys).ok S from hS)]
    rfl
  | x :: xs, h => by
    obtain ⟨e1, q1, q2, q3⟩ := h x List.mem_cons_self
    have ih := lc_stF (tg := tg) (t := t) (f := f) (e := e) v q g hS xs fun y hy => h y (List.mem_cons_of_mem _ hy)
    rw [List.map_cons, lcD_cons, if_pos (show (Src.st k ys).ok S from hS), q1, List.filter_cons]
    cases hq : q x with
    | true =>
      rw [hq] at q2
      simp only [q2, nox_ok, Res.bind_ok, if_true, q3, ih, List.map_cons]
    | false =>
      rw [hq] at q2
      simp only [q2, nox_ok, Res.bind_ok, Bool.false_eq_true, if_false, ih]
theorem nLcS_refT {vs : List Nat} {tg : Tg} {f g : Ev D} {t : Ev Bool} {e : En} {S : Sto} {k : Nat} {xs ys : List D} (hf : f e S = .ok (.ref k) S) (h : S[k]? = some (.lst xs)) (hl : xs.length < 1048576) (q : lcD tg (.st k xs) t g (wipeE e vs) xs S = .ok ys S) : nLc vs tg (iS f) t g e S = .ok (.lst ys) S := by
  rw [ap_Lc, ap_iS, hf, Res.bind_ok, srcS_ref h, Res.bind_ok]
  simp only [Src.items_st]
  rw [if_pos (Nat.le_of_lt (sz hl)), q, Res.bind_ok]
noncomputable def lI (t : List Int) : D := .lst (t.map D.int)
noncomputable def lN (f : List Nat) : D := .lst (f.map fun i : Nat => D.int (i : Int))
theorem lI_gnd (t : List Int) : (lI t).gnd = true := by
  show (D.lst (t.map D.int)).gnd = true
  rw [gnd_lst]
  exact gnds_map (fun _ => rfl) _
theorem lIs_gnd (ts : List (List Int)) : (D.lst (ts.map lI)).gnd = true := by
  rw [gnd_lst]
  exact gnds_map lI_gnd _
theorem lawsums_is (S : Sto) (xs : List Int) (hn : xs.length ≤ 900) (hx : ∀ x ∈ xs, 0 ≤ x ∧ x < 31) : F_law_sums [lI xs] S = .ok (.tup [.int (w0 xs % 31), .int (w1 xs % 31), .int (w2 xs % 31)]) S := by
  have gx : ∀ i, i ∈ List.range xs.length → 0 ≤ xs[i]?.getD 0 ∧ xs[i]?.getD 0 < 31 ∧ i < xs.length := fun i hi => by
    have h := List.mem_range.mp hi
    rw [List.getElem?_eq_getElem h]
    have := hx _ (List.getElem_mem h)
    exact ⟨this.1, this.2, h⟩
  have ix : ∀ i, i < xs.length → ixD (.lst (xs.map D.int)) (.int (i : Nat)) S = .ok (.int (xs[i]?.getD 0)) S := fun i hi => by
    show opt (atI (xs.map D.int) _) S = _
    rw [atI_cast, List.getElem?_map, List.getElem?_eq_getElem hi]
    rfl
  have ln : lenD [.lst (xs.map D.int)] S = .ok (.int (xs.length : Nat)) S := by rw [lenD_lst, List.length_map]
  have n1 : nLc [3] (.nm 3) (iR1 (eCall lenD [(eVar 0)])) tYesD (e2 mulD (e2 ixD (eVar 0) (eVar 3)) (e2 addD (eVar 3) (eC (.int 1)))) [some (.lst (xs.map D.int)), none, none, none] S = .ok (.lst (((List.range xs.length).map fun i : Nat => xs[i]?.getD 0 * (1 + (i : Int))).map D.int)) S := by
    refine nLcR1 (n := xs.length) (by simp only [goS, ln]) (by omega) ?_
    rw [rng_map, List.map_map]
    refine lc_all (tg := .nm 3) (fun i : Nat => D.int (i : Int)) (D.int ∘ fun i : Nat => xs[i]?.getD 0 * (1 + (i : Int))) _ fun i hi => ⟨[some (.lst (xs.map D.int)), none, none, some (.int (i : Nat))], rfl, ?_⟩
    have := gx i hi
    have f1 : FitMul (xs[i]?.getD 0) ((i : Int) + 1) := .left (by omega) (by omega)
    simp only [goS, ix i this.2.2, addD_int, mulD_ok f1, Function.comp, Int.add_comm]
  have n2 : nLc [3] (.nm 3) (iR1 (eCall lenD [(eVar 0)])) tYesD (e2 mulD (e2 mulD (e2 ixD (eVar 0) (eVar 3)) (e2 addD (eVar 3) (eC (.int 1)))) (e2 addD (eVar 3) (eC (.int 1)))) [some (.lst (xs.map D.int)), some (.int (w1 xs)), none, none] S = .ok (.lst (((List.range xs.length).map fun i : Nat => xs[i]?.getD 0 * ((1 + (i : Int)) * (1 + (i : Int)))).map D.int)) S := by
    refine nLcR1 (n := xs.length) (by simp only [goS, ln]) (by omega) ?_
    rw [rng_map, List.map_map]
    refine lc_all (tg := .nm 3) (fun i : Nat => D.int (i : Int)) (D.int ∘ fun i : Nat => xs[i]?.getD 0 * ((1 + (i : Int)) * (1 + (i : Int)))) _ fun i hi => ⟨[some (.lst (xs.map D.int)), some (.int (w1 xs)), none, some (.int (i : Nat))], rfl, ?_⟩
    have := gx i hi
    have f1 : FitMul (xs[i]?.getD 0) ((i : Int) + 1) := .left (by omega) (by omega)
    have f2 : FitMul (xs[i]?.getD 0 * ((i : Int) + 1)) ((i : Int) + 1) := .right (by omega) (by omega)
    simp only [goS, ix i this.2.2, addD_int, mulD_ok f1, mulD_ok f2, Function.comp]
    rw [Int.mul_assoc, Int.add_comm (i : Int) 1]
  have e1 : ((List.range xs.length).map fun i : Nat => xs[i]?.getD 0 * (1 + (i : Int))).sum = w1 xs := wsum_eq (fun p => p) xs 1
  have e2' : ((List.range xs.length).map fun i : Nat => xs[i]?.getD 0 * ((1 + (i : Int)) * (1 + (i : Int)))).sum = w2 xs := wsum_eq (fun p => p * p) xs 1
  have e0 : xs.sum = w0 xs := (wsum_1 xs 1).symm
  have m1 : ∀ y, modD (.int y) (.int 31) S = .ok (.int (y % 31)) S := fun y => modD_pos (by decide)
  show F_law_sums [.lst (xs.map D.int)] S = _
  simp only [F_law_sums, runD, b_law_sums, go0, goS, smB_map, n1, intsD_map, e1, n2, e2', m1]
  rw [e0]
  exact fin_same rfl
theorem fw_one (S : Sto) (X0 P pl : D) (ws L : List (List Int)) (n : Nat) (hw : ws.length ≤ 1000) (hL : L.length ≤ 100000) (hl : ∀ w ∈ ws, w.length ≤ 1000) : turn [5] (.nm 5) b_law_filled_1 (.int (n : Nat)) [some X0, some P, some (.lst (ws.map lI)), some pl, some (.lst (L.map lI)), none, none, none, none] S = .next [some X0, some P, some (.lst (ws.map lI)), some pl, some (.lst ((L ++ ws.map fun w => w ++ [(n : Int)]).map lI)), none, none, none, none] S := by
  have lc : nLc [7] (.nm 7) (iS (eVar 2)) tYesD (e2 addD (eVar 7) (eAno (nLst [(eVar 5)]))) [some X0, some P, some (.lst (ws.map lI)), some pl, some (.lst (L.map lI)), some (.int (n : Nat)), none, none, none] S = .ok (.lst ((ws.map fun w => w ++ [(n : Int)]).map lI)) S := by
    refine nLcS_lst (xs := ws.map lI) rfl (by rw [List.length_map]; omega) ?_
    rw [List.map_map]
    refine lc_all lI (lI ∘ fun w => w ++ [(n : Int)]) ws fun w hw' => ⟨[some X0, some P, some (.lst (ws.map lI)), some pl, some (.lst (L.map lI)), some (.int (n : Nat)), none, some (lI w), none], rfl, ?_⟩
    have ad : addD (lI w) (.lst [.int (n : Nat)]) S = .ok (lI (w ++ [(n : Int)])) S := by
      have := Pu.addL (xs := w.map D.int) (ys := [D.int (n : Nat)]) (S := S) (by rw [List.length_map]; have := hl w hw'; simp; omega)
      have e : (w ++ [(n : Int)]).map D.int = w.map D.int ++ [D.int (n : Nat)] := by simp
      show addD (.lst (w.map D.int)) _ S = Res.ok (D.lst ((w ++ [(n : Int)]).map D.int)) S
      rw [e]
      exact this
    simp only [goS, ad, Function.comp]
  have a2 : addD (.lst (L.map lI)) (.lst ((ws.map fun w => w ++ [(n : Int)]).map lI)) S = .ok (.lst ((L ++ ws.map fun w => w ++ [(n : Int)]).map lI)) S := by
    rw [Pu.addL (by simp; omega), ← List.map_append]
  simp only [turn, b_law_filled_1, goS, lc, a2]
theorem fw_longer (S : Sto) (X0 P pl : D) (ws : List (List Int)) (hw : ws.length ≤ 1000) (hl : ∀ w ∈ ws, w.length ≤ 1000) : turn [3, 4, 5] (.nm 3) b_law_filled_2 pl [some X0, some P, some (.lst (ws.map lI)), none, none, none, none, none, none] S = .next [some X0, some P, some (.lst ((w31 ws 31).map lI)), none, none, none, none, none, none] S := by
  obtain ⟨e', S', q, hI⟩ := for_inv0 (dead := [5]) (tg := .nm 5) (body := b_law_filled_1) (ys := rngD 0 ((31 : Nat) : Int)) (xs := rngD 0 ((31 : Nat) : Int)) (S := S) (e := [some X0, some P, some (.lst (ws.map lI)), some pl, some (.lst []), none, none, none, none])
    (fun i e S' => S' = S ∧ (i ≤ 31 → e = [some X0, some P, some (.lst (ws.map lI)), some pl, some (.lst ((w31 ws i).map lI)), none, none, none, none])) ⟨rfl, fun _ => rfl⟩ (fun i e S' x hx ⟨hS, he⟩ => by
      subst hS
      obtain ⟨ex, hlt⟩ := rngD_get hx
      rw [Int.zero_add] at ex
      subst ex
      have he := he (by omega)
      subst he
      have hb : (w31 ws i).length ≤ 31 * 1000 := by
        rw [w31_len]
        exact Nat.mul_le_mul (by omega) hw
      refine ⟨_, _, fw_one S' X0 P pl ws (w31 ws i) i hw (by omega) hl, rfl, fun _ => ?_⟩
      have : w31 ws (i + 1) = w31 ws i ++ ws.map fun w => w ++ [(i : Int)] := by
        unfold w31
        rw [List.range_succ, List.flatMap_append]
        simp
      rw [this])
  obtain ⟨rfl, hI⟩ := hI
  have hI := hI (by rw [rngD_len]; omega)
  rw [show (rngD 0 ((31 : Nat) : Int)).length = 31 by rw [rngD_len]; rfl] at hI
  subst hI
  have fr := forR1 (dead := [5]) (tg := .nm 5) (f := eC (.int 31)) (a := b_law_filled_1) (e := [some X0, some P, some (.lst (ws.map lI)), some pl, some (.lst []), none, none, none, none]) (S := S') (n := 31) rfl (by decide)
  rw [q] at fr
  simp only [turn, b_law_filled_2, goS, fr]
theorem waysN_small : ∀ n : Nat, n ≤ 2 → (waysN n).length ≤ 1000
  | 0, _ => by decide
  | 1, _ => by
    show (w31 (waysN 0) 31).length ≤ _
    rw [w31_len]
    decide
  | 2, _ => by
    show (w31 (w31 (waysN 0) 31) 31).length ≤ _
    rw [w31_len, w31_len]
    decide
  | n + 3, h => by omega
theorem ways_walk (S : Sto) (xs : List Int) (free : List Nat) (h3 : free.length ≤ 3) : sFor [3, 4, 5] (.nm 3) (iS (eSl (eVar 1) (pE (eC (.int 1))) pN)) b_law_filled_2 [some (lI xs), some (lN free), some (.lst [.lst []]), none, none, none, none, none, none] S = .next [some (lI xs), some (lN free), some (.lst ((waysN (free.length - 1)).map lI)), none, none, none, none, none, none] S := by
  have sl : slD (lN free) (some 1) none S = .ok (.lst ((free.drop 1).map fun i : Nat => D.int (i : Int))) S := by
    show Res.ok (D.lst (cutL _ (some ((1 : Nat) : Int)) none)) S = _
    rw [cut_from, List.map_drop]
  rw [forS_lst (xs := (free.drop 1).map fun i : Nat => D.int (i : Int)) (by simp only [goS, sl])]
  obtain ⟨e', S', q, hI⟩ := for_inv0 (dead := [3, 4, 5]) (tg := .nm 3) (body := b_law_filled_2) (ys := (free.drop 1).map fun i : Nat => D.int (i : Int)) (xs := (free.drop 1).map fun i : Nat => D.int (i : Int)) (S := S) (e := [some (lI xs), some (lN free), some (.lst [.lst []]), none, none, none, none, none, none])
    (fun i e S' => S' = S ∧ (i ≤ 2 → e = [some (lI xs), some (lN free), some (.lst ((waysN i).map lI)), none, none, none, none, none, none])) ⟨rfl, fun _ => rfl⟩ (fun i e S' x hx ⟨hS, he⟩ => by
      subst hS
      have hi : i < (free.drop 1).length := by
        have := (List.getElem?_eq_some_iff.mp hx).1
        rwa [List.length_map] at this
      rw [List.length_drop] at hi
      have he := he (by omega)
      subst he
      refine ⟨_, _, fw_longer S' (lI xs) (lN free) x (waysN i) (waysN_small i (by omega)) (fun w hw => ?_), rfl, fun _ => rfl⟩
      have := ((waysN_mem i w).mp hw).1
      omega)
  obtain ⟨rfl, hI⟩ := hI
  rw [List.length_map, List.length_drop] at hI
  rw [q, hI (by omega)]
theorem zip_fill (S2 : Sto) (e1 : En) (m : Nat) (hm : S2.length = m) (he8 : ∀ (v w : D), ((e1.set 3 (some v)).set 5 (some w))[8]? = some (some (.ref m))) (hw : ∀ (v w : D), wipeE ((e1.set 3 (some v)).set 5 (some w)) [3, 5] = e1) (h35 : 5 < e1.length) (ys : List D) : ∀ (ps : List Nat) (vs cur : List Int), (∀ p ∈ ps, p < cur.length) → forD [3, 5] (.tp [.nm 3, .nm 5]) (.tmp ys) b_law_filled_3 (zipL (ps.map fun i : Nat => D.int (i : Int)) (vs.map D.int)) e1 (S2 ++ [.lst (cur.map D.int)]) = .next e1 (S2 ++ [.lst ((putW cur ps vs).map D.int)])
  | [], vs, cur, _ => by
    unfold putW
    exact forD_nil trivial
  | _ :: _, [], cur, _ => by
    unfold putW
    exact forD_nil trivial
  | p :: ps, v :: vs, cur, hp => by
    have hat : (S2 ++ [DO.lst (cur.map D.int)])[m]? = some (.lst (cur.map D.int)) := by rw [← hm]; exact last_at
    have hp0 := hp p List.mem_cons_self
    have st : stD (.ref m) (.int (p : Nat)) (.int v) (S2 ++ [DO.lst (cur.map D.int)]) = some (S2 ++ [.lst ((cur.set p v).map D.int)]) := by
      rw [stD_lst hat (n := p) (by rw [List.length_map]; exact ixN_nat hp0), ← hm, set_last, List.map_set]
    have t : turn [3, 5] (.tp [.nm 3, .nm 5]) b_law_filled_3 (.tpi [.int (p : Nat), .int v]) e1 (S2 ++ [.lst (cur.map D.int)]) = .next e1 (S2 ++ [.lst ((cur.set p v).map D.int)]) := by
      have hb : bindT (.tp [.nm 3, .nm 5]) (.tpi [.int (p : Nat), .int v]) e1 = some ((e1.set 3 (some (.int (p : Nat)))).set 5 (some (.int v))) := rfl
      have v3 : eVar 3 ((e1.set 3 (some (.int (p : Nat)))).set 5 (some (.int v))) (S2 ++ [.lst (cur.map D.int)]) = .ok (.int (p : Nat)) (S2 ++ [.lst (cur.map D.int)]) := ap_Var (by rw [List.getElem?_set_ne (by decide), List.getElem?_set_self (by omega)])
      have v5 : eVar 5 ((e1.set 3 (some (.int (p : Nat)))).set 5 (some (.int v))) (S2 ++ [.lst (cur.map D.int)]) = .ok (.int v) (S2 ++ [.lst (cur.map D.int)]) := ap_Var (List.getElem?_set_self (by rw [List.length_set]; exact h35))
      have v8 : eVar 8 ((e1.set 3 (some (.int (p : Nat)))).set 5 (some (.int v))) (S2 ++ [.lst (cur.map D.int)]) = .ok (.ref m) (S2 ++ [.lst (cur.map D.int)]) := ap_Var (he8 _ _)
      unfold turn
      rw [hb]
      simp only [b_law_filled_3, ap_St, v5, v8, v3, Res.stm_ok, st]
      show aft [3, 5] (.next _ _) = _
      simp only [aft_next, hw]
    show forD [3, 5] (.tp [.nm 3, .nm 5]) (.tmp ys) b_law_filled_3 (.tpi [.int (p : Nat), .int v] :: zipL (ps.map fun i : Nat => D.int (i : Int)) (vs.map D.int)) e1 _ = _
    rw [forD_cons (show (Src.tmp ys).ok _ from trivial), t]
    show forD [3, 5] (.tp [.nm 3, .nm 5]) (.tmp ys) b_law_filled_3 (zipL (ps.map fun i : Nat => D.int (i : Int)) (vs.map D.int)) e1 _ = _
    rw [zip_fill S2 e1 m hm he8 hw h35 ys ps vs (cur.set p v) fun q hq => by rw [List.length_set]; exact hp q (List.mem_cons_of_mem _ hq)]
    conv => rhs; unfold putW
theorem lN_ne (free : List Nat) (S : Sto) : eqD true (lN free) (.lst []) S = .ok (.bl (!free.isEmpty)) S := by
  have := Rp.int.ls.ne (by decide) (free.map fun i : Nat => (i : Int)) [] S
  have e : lsD D.int (free.map fun i : Nat => (i : Int)) = lN free := by
    show D.lst _ = D.lst _
    rw [List.map_map]
    rfl
  rw [e] at this
  rw [show eqD true (lN free) (.lst []) S = eqD true (lN free) (lsD D.int []) S from rfl, this]
  cases free <;> simp
theorem frz_lI {n : Nat} {S : Sto} {m : Nat} {t : List Int} (h : S[m]? = some (.lst (t.map D.int))) (hm : ¬ m < n) (f : Nat) : frzV n S (f + 1 + 1) (.ref m) = some (lI t) := by
  have hb : ¬ (D.ref m).bel n = true := fun z => hm (of_decide_eq_true z)
  unfold frzV
  rw [if_neg hb]
  simp only [h]
  have : Pu.allSome ((t.map D.int).map (frzV n S (f + 1))) = some (t.map D.int) := by
    rw [List.map_map]
    have : ∀ t : List Int, Pu.allSome (t.map (frzV n S (f + 1) ∘ D.int)) = some (t.map D.int) := by
      intro t
      induction t with
      | nil => rfl
      | cons x t ih =>
        rw [List.map_cons]
        show Pu.allSome (frzV n S (f + 1) (.int x) :: _) = _
        rw [frzV_bel rfl]
        show (Pu.allSome _).map _ = _
        rw [ih]
        rfl
    exact this t
  rw [this]
  rfl
theorem belI (t : List Int) (n : Nat) : (lI t).bel n = true := by
  show belows n (t.map D.int) = true
  induction t with
  | nil => rfl
  | cons x t ih =>
    show (D.bel n (.int x) && belows n (t.map D.int)) = true
    rw [ih]
    rfl
theorem belIs (ts : List (List Int)) (n : Nat) : belows n (ts.map lI) = true := by
  induction ts with
  | nil => rfl
  | cons x ts ih =>
    show (D.bel n (lI x) && belows n (ts.map lI)) = true
    rw [belI, ih]
    rfl
theorem belN (f : List Nat) (n : Nat) : (lN f).bel n = true := by
  show belows n (f.map fun i : Nat => D.int (i : Int)) = true
  induction f with
  | nil => rfl
  | cons x t ih =>
    show (D.bel n (.int x) && belows n (t.map fun i : Nat => D.int (i : Int))) = true
    rw [ih]
    rfl
theorem allS_app {α : Type} : ∀ (xs : List α) (f : α → Option α) (y z : α), (∀ x ∈ xs, f x = some x) → f y = some z → Pu.allSome ((xs ++ [y]).map f) = some (xs ++ [z])
  | [], f, y, z, _, hz => by
    show Pu.allSome [f y] = _
    rw [hz]
    rfl
  | x :: xs, f, y, z, h, hz => by
    rw [List.cons_append, List.map_cons, h x List.mem_cons_self]
    show (Pu.allSome _).map _ = _
    rw [allS_app xs f y z (fun a ha => h a (List.mem_cons_of_mem _ ha)) hz]
    rfl
theorem fill_turn (S : Sto) (xs : List Int) (free : List Nat) (W : D) (hW : ∀ n, W.bel n = true) (acc : List (List Int)) (way : List Int) (x8 : Option (List Int)) (hf : ∀ p ∈ free, p < xs.length) (hl : xs.length ≤ 900) (ha : acc.length ≤ 100000) :
    turn [3, 5, 7] (.nm 7) (sCutB b_law_filled_4) (lI way) [some (lI xs), some (lN free), some W, none, none, none, some (.ref S.length), none, x8.map lI] (S ++ [.lst (acc.map lI)]) = .next [some (lI xs), some (lN free), some W, none, none, none, some (.ref S.length), none, some (lI (madeW xs free way))] (S ++ [.lst ((acc ++ [madeW xs free way]).map lI)]) := by
  have len1 : (S ++ [DO.lst (acc.map lI)]).length = S.length + 1 := by simp
  let e1 : En := [some (lI xs), some (lN free), some W, none, none, none, some (.ref S.length), some (lI way), some (.ref (S.length + 1))]
  have nl : ∀ o, nListOf (eVar 0) [some (lI xs), some (lN free), some W, none, none, none, some (.ref S.length), some (lI way), o] (S ++ [DO.lst (acc.map lI)]) = .ok (.lst (xs.map D.int)) (S ++ [DO.lst (acc.map lI)]) := fun o => by
    unfold nListOf
    simp only [goS]
    rfl
  have sl : ∀ T, slD (lN free) (some 1) none T = .ok (.lst ((free.drop 1).map fun i : Nat => D.int (i : Int))) T := fun T => by
    show Res.ok (D.lst (cutL _ (some ((1 : Nat) : Int)) none)) T = _
    rw [cut_from, List.map_drop]
  have zf := zip_fill (S ++ [DO.lst (acc.map lI)]) e1 (S.length + 1) len1 (fun _ _ => rfl) (fun _ _ => rfl) (by show 5 < 9; decide) (zipL ((free.drop 1).map fun i : Nat => D.int (i : Int)) (way.map D.int)) (free.drop 1) way xs fun p hp => hf p (List.mem_of_mem_drop hp)
  have zs : sFor [3, 5] (.tp [(.nm 3), (.nm 5)]) (iZp (eSl (eVar 1) (pE (eC (.int 1))) pN) (eVar 7)) b_law_filled_3 e1 (S ++ [DO.lst (acc.map lI)] ++ [.lst (xs.map D.int)]) = .next e1 (S ++ [DO.lst (acc.map lI)] ++ [.lst ((putW xs (free.drop 1) way).map D.int)]) := by
    have hz : iZp (eSl (eVar 1) (pE (eC (.int 1))) pN) (eVar 7) e1 (S ++ [DO.lst (acc.map lI)] ++ [.lst (xs.map D.int)]) = .ok (.tmp (zipL ((free.drop 1).map fun i : Nat => D.int (i : Int)) (way.map D.int))) (S ++ [DO.lst (acc.map lI)] ++ [.lst (xs.map D.int)]) := by
      unfold iZp
      simp only [goS, e1, sl]
      rfl
    rw [ap_For, hz, Res.stm_ok]
    exact zf
  -- the whole of the body
  have body : b_law_filled_4 [some (lI xs), some (lN free), some W, none, none, none, some (.ref S.length), some (lI way), x8.map lI] (S ++ [.lst (acc.map lI)]) = .next e1 (S ++ [.lst (acc.map lI ++ [.ref (S.length + 1)])] ++ [.lst ((madeW xs free way).map D.int)]) := by
    have hat : ∀ t : List Int, (S ++ [DO.lst (acc.map lI)] ++ [DO.lst (t.map D.int)])[S.length + 1]? = some (.lst (t.map D.int)) := fun t => by rw [← len1]; exact last_at
    have at6 : ∀ t : List Int, (S ++ [DO.lst (acc.map lI)] ++ [DO.lst (t.map D.int)])[S.length]? = some (.lst (acc.map lI)) := fun t => by simp
    have ap : ∀ t : List Int, appD (.ref S.length) [.ref (S.length + 1)] (S ++ [DO.lst (acc.map lI)] ++ [DO.lst (t.map D.int)]) = .ok .non (S ++ [.lst (acc.map lI ++ [.ref (S.length + 1)])] ++ [.lst (t.map D.int)]) := fun t => by
      rw [appD_ref (at6 t) (sz (by rw [List.length_map]; omega))]
      simp
    have ne := fun T => lN_ne free T
    have e10 : [some (lI xs), some (lN free), some W, none, none, none, some (.ref S.length), some (lI way), some (.ref (S.length + 1))] = e1 := rfl
    cases free with
    | nil =>
      have ne0 : ∀ T, eqD true (lN []) (.lst []) T = .ok (.bl false) T := ne
      have zs' := zs
      rw [show putW xs (([] : List Nat).drop 1) way = xs by unfold putW; rfl] at zs'
      simp only [b_law_filled_4, goS, nl, len1, List.length_append, List.length_singleton]
      rw [e10, zs']
      simp only [goS, e1, ne0, Bool.false_eq_true, if_false, isT_ref (at6 xs), if_true, ap]
      rfl
    | cons p ps =>
      have ne1 : ∀ T, eqD true (lN (p :: ps)) (.lst []) T = .ok (.bl true) T := ne
      have hp : p < (putW xs ps way).length := by rw [putW_len]; exact hf p List.mem_cons_self
      have i0 : ∀ T, ixD (lN (p :: ps)) (.int 0) T = .ok (.int (p : Nat)) T := fun T => by
        show opt (atI _ 0) T = _
        rw [atI_0]
        rfl
      have st : ∀ (t : List Int) (v : Int), p < t.length → stD (.ref (S.length + 1)) (.int (p : Nat)) (.int v) (S ++ [DO.lst (acc.map lI)] ++ [DO.lst (t.map D.int)]) = some (S ++ [DO.lst (acc.map lI)] ++ [.lst ((t.set p v).map D.int)]) := fun t v ht => by
        rw [stD_lst (hat t) (n := p) (by rw [List.length_map]; exact ixN_nat ht), ← len1, set_last, List.map_set]
      have sm : ∀ t : List Int, intsD (fun ns => .int ns.sum) [.ref (S.length + 1)] (S ++ [DO.lst (acc.map lI)] ++ [DO.lst (t.map D.int)]) = .ok (.int t.sum) (S ++ [DO.lst (acc.map lI)] ++ [DO.lst (t.map D.int)]) := fun t => by
        simp only [intsD, lsOf_ref (hat t), Option.bind_some, intsL_map]
      have md : ∀ (v : Int) T, modD (.int v) (.int 31) T = .ok (.int (v % 31)) T := fun v T => modD_pos (by decide)
      have zs' : sFor [3, 5] (.tp [(.nm 3), (.nm 5)]) (iZp (eSl (eVar 1) (pE (eC (.int 1))) pN) (eVar 7)) b_law_filled_3 e1 (S ++ [DO.lst (acc.map lI)] ++ [.lst (xs.map D.int)]) = .next e1 (S ++ [DO.lst (acc.map lI)] ++ [.lst ((putW xs ps way).map D.int)]) := zs
      have s1 := st (putW xs ps way) 0 hp
      have s2 := st ((putW xs ps way).set p 0) ((0 - ((putW xs ps way).set p 0).sum) % 31) (by rw [List.length_set]; exact hp)
      have sm2 := sm ((putW xs ps way).set p 0)
      have ap2 := ap (((putW xs ps way).set p 0).set p ((0 - ((putW xs ps way).set p 0).sum) % 31))
      have at2 := at6 (((putW xs ps way).set p 0).set p ((0 - ((putW xs ps way).set p 0).sum) % 31))
      simp only [b_law_filled_4, goS, nl, len1, List.length_append, List.length_singleton]
      rw [e10, zs']
      simp only [goS, e1, ne1, if_true, i0, s1, sm2, subD_i, md, s2, isT_ref at2, ap2]
      rfl
  -- .. and its end
  have cut : cutR (S ++ [.lst (acc.map lI)]) (.next e1 (S ++ [.lst (acc.map lI ++ [.ref (S.length + 1)])] ++ [.lst ((madeW xs free way).map D.int)])) = .next [some (lI xs), some (lN free), some W, none, none, none, some (.ref S.length), some (lI way), some (lI (madeW xs free way))] (S ++ [.lst ((acc ++ [madeW xs free way]).map lI)]) := by
    have hm : (S ++ [DO.lst (acc.map lI ++ [.ref (S.length + 1)])] ++ [DO.lst ((madeW xs free way).map D.int)])[S.length + 1]? = some (.lst ((madeW xs free way).map D.int)) := by
      have hh : (S ++ [DO.lst (acc.map lI ++ [.ref (S.length + 1)])]).length = S.length + 1 := by simp
      have := last_at (S := S ++ [DO.lst (acc.map lI ++ [.ref (S.length + 1)])]) (o := DO.lst ((madeW xs free way).map D.int))
      rw [hh] at this
      exact this
    have fz := frz_lI (n := S.length + 1) hm (by omega) 4
    have b6 : (D.ref S.length).bel (S.length + 1) = true := decide_eq_true (by omega)
    have fe : Pu.allSome (e1.map (frzX (S.length + 1) (S ++ [DO.lst (acc.map lI ++ [.ref (S.length + 1)])] ++ [DO.lst ((madeW xs free way).map D.int)]))) = some [some (lI xs), some (lN free), some W, none, none, none, some (.ref S.length), some (lI way), some (lI (madeW xs free way))] := by
      simp only [e1, List.map_cons, List.map_nil, frzX, frzV_bel (belI xs _), frzV_bel (belN free _), frzV_bel (hW _), frzV_bel b6, frzV_bel (belI way _), fz, Option.map_some, Pu.allSome]
    have fs : frzS (S ++ [DO.lst (acc.map lI)]) (S ++ [DO.lst (acc.map lI ++ [.ref (S.length + 1)])] ++ [DO.lst ((madeW xs free way).map D.int)]) = some (S ++ [.lst ((acc ++ [madeW xs free way]).map lI)]) := by
      refine frzS_of (by simp) fun k o2 h2 => ?_
      by_cases hk : k < S.length
      · rw [List.getElem?_append_left hk] at h2
        refine ⟨o2, by rw [List.append_assoc, List.getElem?_append_left hk]; exact h2, frzO_same (by rw [List.getElem?_append_left hk]; exact h2)⟩
      · have hk' : k = S.length := by
          have := (List.getElem?_eq_some_iff.mp h2).1
          simp at this
          omega
        subst hk'
        have h2 : some (DO.lst ((acc ++ [madeW xs free way]).map lI)) = some o2 := by rw [← h2]; simp
        cases h2
        refine ⟨.lst (acc.map lI ++ [.ref (S.length + 1)]), by simp, ?_⟩
        have aa := allS_app (acc.map lI) (frzV (S.length + 1) (S ++ [DO.lst (acc.map lI ++ [.ref (S.length + 1)])] ++ [DO.lst ((madeW xs free way).map D.int)]) 6) (.ref (S.length + 1)) (lI (madeW xs free way)) (fun x hx => by
          obtain ⟨t, _, rfl⟩ := List.mem_map.mp hx
          exact frzV_bel (belI t _)) fz
        have nb : ¬ ((S ++ [DO.lst (acc.map lI)])[S.length]? = some (DO.lst (acc.map lI ++ [.ref (S.length + 1)])) ∨ (DO.lst (acc.map lI ++ [.ref (S.length + 1)])).bel (S ++ [DO.lst (acc.map lI)]).length = true) := by
          rintro (z | z)
          · rw [last_at] at z
            have z := Option.some.inj z
            have z : acc.map lI = acc.map lI ++ [.ref (S.length + 1)] := by
              injection z
            have := congrArg List.length z
            simp at this
          · rw [len1] at z
            have z : belows (S.length + 1) (acc.map lI ++ [.ref (S.length + 1)]) = true := z
            have g : ∀ l : List D, belows (S.length + 1) (l ++ [.ref (S.length + 1)]) = true → False := by
              intro l
              induction l with
              | nil =>
                intro z
                have z : (decide (S.length + 1 < S.length + 1) && true) = true := z
                simp at z
              | cons d l ih =>
                intro z
                have z : (D.bel (S.length + 1) d && belows (S.length + 1) (l ++ [.ref (S.length + 1)])) = true := z
                rw [Bool.and_eq_true] at z
                exact ih z.2
            exact g _ z
        unfold frzO
        rw [if_neg nb]
        show (Pu.allSome ((acc.map lI ++ [D.ref (S.length + 1)]).map (frzV (S ++ [DO.lst (acc.map lI)]).length _ 6))).map DO.lst = _
        rw [len1, aa, Option.map_some, List.map_append]
        rfl
    show frz2 (Pu.allSome (e1.map (frzX (S ++ [DO.lst (acc.map lI)]).length _))) (frzS _ _) = _
    rw [len1, fe, fs]
    rfl
  have hb : bindT (.nm 7) (lI way) [some (lI xs), some (lN free), some W, none, none, none, some (.ref S.length), none, x8.map lI] = some [some (lI xs), some (lN free), some W, none, none, none, some (.ref S.length), some (lI way), x8.map lI] := rfl
  unfold turn
  rw [hb]
  simp only [ap_CutB]
  rw [body, cut]
  rfl
theorem filled_law (S : Sto) (xs : List Int) (free : List Nat) (hx : Rg xs) (h3 : free.length ≤ 3) (hf : ∀ p ∈ free, p < xs.length) (hl : xs.length ≤ 900) : F_law_filled [lI xs, lN free] S = .ok (.lst ((filledL xs free).map lI)) S := by
  have wk := ways_walk S xs free h3
  have wl : (waysN (free.length - 1)).length ≤ 1000 := waysN_small _ (by omega)
  have hW : ∀ n, (D.lst ((waysN (free.length - 1)).map lI)).bel n = true := fun n => belIs _ n
  obtain ⟨e', S', q, hI⟩ := for_inv0 (dead := [3, 5, 7]) (tg := .nm 7) (body := sCutB b_law_filled_4) (ys := (waysN (free.length - 1)).map lI) (xs := (waysN (free.length - 1)).map lI) (S := S ++ [.lst (([] : List (List Int)).map lI)]) (e := [some (lI xs), some (lN free), some (.lst ((waysN (free.length - 1)).map lI)), none, none, none, some (.ref S.length), none, none])
    (fun i e S' => ∃ x8 : Option (List Int), e = [some (lI xs), some (lN free), some (.lst ((waysN (free.length - 1)).map lI)), none, none, none, some (.ref S.length), none, x8.map lI] ∧ S' = S ++ [.lst ((((waysN (free.length - 1)).take i).map (madeW xs free)).map lI)]) ⟨none, rfl, rfl⟩ (fun i e S' x hx' ⟨x8, he, hS⟩ => by
      subst he hS
      rw [List.getElem?_map] at hx'
      obtain ⟨way, hw, rfl⟩ := Option.map_eq_some_iff.mp hx'
      refine ⟨_, _, fill_turn S xs free _ hW (((waysN (free.length - 1)).take i).map (madeW xs free)) way x8 hf hl (by rw [List.length_map, List.length_take]; omega), some (madeW xs free way), rfl, ?_⟩
      rw [List.take_add_one, hw]
      simp)
  obtain ⟨x8, rfl, rfl⟩ := hI
  rw [List.length_map, List.take_length] at q
  generalize hM : (waysN (free.length - 1)).map (madeW xs free) = M at q
  have hMl : M.length ≤ 1000 := by rw [← hM, List.length_map]; exact wl
  have rgM : ∀ t ∈ M, Rg t ∧ t.length = xs.length := fun t ht => by
    rw [← hM] at ht
    obtain ⟨way, hw, rfl⟩ := List.mem_map.mp ht
    refine ⟨?_, made_len xs free way⟩
    cases free with
    | nil => exact hx
    | cons p ps =>
      have r0 := putW_rg ps xs way hx ((waysN_mem _ way).mp hw).2
      intro x hx'
      have hx' : x ∈ lastW (putW xs ps way) p := hx'
      unfold lastW at hx'
      rcases List.mem_or_eq_of_mem_set hx' with hx' | hx'
      · rcases List.mem_or_eq_of_mem_set hx' with hx' | hx'
        · exact r0 x hx'
        · rw [hx']; decide
      · rw [hx']; omega
  have hat : (S ++ [DO.lst (M.map lI)])[S.length]? = some (.lst (M.map lI)) := last_at
  have lc : nLc [8] (.nm 8) (iS (eVar 6)) (eTB (e2 (eqD false) (eFn F_law_sums [(eVar 8)]) (eTup [(eC (.int 0)), (eC (.int 0)), (eC (.int 0))]))) (eVar 8) [some (lI xs), some (lN free), some (.lst ((waysN (free.length - 1)).map lI)), none, none, none, some (.ref S.length), none, x8.map lI] (S ++ [DO.lst (M.map lI)]) = .ok (.lst ((M.filter zsB).map lI)) (S ++ [DO.lst (M.map lI)]) := by
    refine nLcS_refT rfl hat (by rw [List.length_map]; omega) ?_
    refine lc_stF lI zsB lI hat M fun t ht => ⟨[some (lI xs), some (lN free), some (.lst ((waysN (free.length - 1)).map lI)), none, none, none, some (.ref S.length), none, some (lI t)], rfl, ?_, rfl⟩
    obtain ⟨r1, r2⟩ := rgM t ht
    have sm := lawsums_is (S ++ [DO.lst (M.map lI)]) t (by omega) r1
    have eq3 : eqD false (.tup [.int (w0 t % 31), .int (w1 t % 31), .int (w2 t % 31)]) (.tup [.int 0, .int 0, .int 0]) (S ++ [DO.lst (M.map lI)]) = .ok (.bl (zsB t)) (S ++ [DO.lst (M.map lI)]) := by
      have := Rp.int.tp.eq (by decide) [w0 t % 31, w1 t % 31, w2 t % 31] [0, 0, 0] (S ++ [DO.lst (M.map lI)])
      refine this.trans ?_
      unfold zsB
      simp
    simp only [goS, sm, eq3]
  have ff : sFor [3, 5, 7] (.nm 7) (iS (eVar 2)) (sCutB b_law_filled_4) [some (lI xs), some (lN free), some (.lst ((waysN (free.length - 1)).map lI)), none, none, none, some (.ref S.length), none, none] (S ++ [.lst []]) = .next [some (lI xs), some (lN free), some (.lst ((waysN (free.length - 1)).map lI)), none, none, none, some (.ref S.length), none, x8.map lI] (S ++ [DO.lst (M.map lI)]) := by
    rw [forS_lst (xs := (waysN (free.length - 1)).map lI) rfl]
    exact q
  show retD .frz S (b_law_filled [some (lI xs), some (lN free), none, none, none, none, none, none, none] S) = _
  have w0' : b_law_filled [some (lI xs), some (lN free), none, none, none, none, none, none, none] S = .ret (.lst ((M.filter zsB).map lI)) (S ++ [DO.lst (M.map lI)]) := by
    simp only [b_law_filled, goS, wk, ff, lc]
  rw [w0', retD_ret, ← hM]
  exact fin_app (lIs_gnd _)
noncomputable def symV (f : List Nat) : Int := if 63 ∈ f then 31 else valB f 0
theorem in_q (f : List Nat) (S : Sto) : inD false (.str "?") (.str (tx f)) S = .ok (.bl (decide (63 ∈ f))) S := by
  rw [show Str.ofString "?" = tx [63] by decide +kernel]
  show Res.ok (D.bl (if (false : Bool) = true then _ else !(PySem.Builtin.Str.occurrences (tx f) (tx [63]) 0 (tx f).length 1).isEmpty)) S = _
  rw [if_neg Bool.false_ne_true, show tx [63] = ⟨#[63]⟩ from rfl, PySem.StrLaws.found_one, tx_list]
theorem valB_32 {f : List Nat} (h5 : f.length = 5) : 0 ≤ valB f 0 ∧ valB f 0 < 32 := by
  obtain ⟨a, b, c, d, e, rfl⟩ : ∃ a b c d e, f = [a, b, c, d, e] := by
    match f, h5 with
    | [a, b, c, d, e], _ => exact ⟨a, b, c, d, e, rfl⟩
  simp only [valB]
  refine ⟨?_, ?_⟩ <;> (repeat' split) <;> omega
theorem symV_O {f : List Nat} (h5 : f.length = 5) : symV f = (symO f).getD 31 := by
  have := valB_32 h5
  unfold symV symO
  by_cases h : 63 ∈ f
  · rw [if_pos h, if_pos h]; rfl
  · rw [if_neg h, if_neg h]
    by_cases h1 : valB f 0 < 31
    · rw [if_pos h1]; rfl
    · rw [if_neg h1]
      show valB f 0 = 31
      omega
theorem num_walk (S : Sto) (e0 : En) (ys : List D) (h6 : 7 < e0.length) : ∀ (ds : List Int) (acc : Int), forD [7] (.nm 7) (.tmp ys) b_law_read_1 (ds.map D.int) ((e0.set 6 (some (.int acc))).set 7 none) S = .next ((e0.set 6 (some (.int (ds.foldl (fun a d => a * 31 + d) acc)))).set 7 none) S
  | [], acc => forD_nil trivial
  | d :: ds, acc => by
    have v6 : eVar 6 (((e0.set 6 (some (.int acc))).set 7 none).set 7 (some (.int d))) S = .ok (.int acc) S := ap_Var (by rw [List.getElem?_set_ne (by decide), List.getElem?_set_ne (by decide), List.getElem?_set_self (by omega)])
    have v7 : eVar 7 (((e0.set 6 (some (.int acc))).set 7 none).set 7 (some (.int d))) S = .ok (.int d) S := ap_Var (List.getElem?_set_self (by rw [List.length_set, List.length_set]; exact h6))
    have fm : FitMul acc 31 := .right (by decide) (by decide)
    have t : turn [7] (.nm 7) b_law_read_1 (.int d) ((e0.set 6 (some (.int acc))).set 7 none) S = .next ((e0.set 6 (some (.int (acc * 31 + d)))).set 7 none) S := by
      have hb : bindT (.nm 7) (.int d) ((e0.set 6 (some (.int acc))).set 7 none) = some (((e0.set 6 (some (.int acc))).set 7 none).set 7 (some (.int d))) := rfl
      unfold turn
      rw [hb]
      simp only [b_law_read_1, ap_Set, ap_2, v6, v7, ap_C, Res.bind_ok, mulD_ok fm, addD_int, Res.stm_ok, aft_next]
      show SRes.next (((((e0.set 6 (some (.int acc))).set 7 none).set 7 (some (.int d))).set 6 (some (.int (acc * 31 + d)))).set 7 none) S = _
      congr 1
      apply List.ext_getElem?
      intro m
      simp only [List.getElem?_set, List.length_set]
      by_cases m7 : 7 = m
      · simp [m7]
      · by_cases m6 : 6 = m
        · simp [m7, m6]
        · simp [m7, m6]
    rw [List.map_cons, forD_cons (show (Src.tmp ys).ok S from trivial), t]
    exact num_walk S e0 ys h6 ds (acc * 31 + d)
theorem num_fold : ∀ (ds : List Int) (acc : Int), ds.reverse.foldl (fun a d => a * 31 + d) acc = numF ds + acc * 31 ^ ds.length
  | [], acc => by simp [numF]
  | d :: ds, acc => by
    rw [List.reverse_cons, List.foldl_append, num_fold ds acc]
    simp only [List.foldl_cons, List.foldl_nil, numF, List.length_cons]
    rw [Int.pow_succ]
    grind
theorem pick3_is (t : List Int) : pick3 (t.map D.int) = (((t.drop 1).take (t.length - 4)).reverse).map D.int := by
  unfold pick3
  rw [List.length_map, ← List.map_take, ← List.map_drop, ← List.map_reverse, List.drop_take, show t.length - 3 - 1 = t.length - 4 by omega]
theorem inL_rp21 {α : Type} [DecidableEq α] {f : α → D} {n : Nat} (hf : Rp f n) (hn : n < 64) (x : α) (xs : List α) (neg : Bool) (S : Sto) : inD neg (f x) (.lst (xs.map f)) S = .ok (.bl (if neg = true then !decide (x ∈ xs) else decide (x ∈ xs))) S := by
  have h1 : SeqAt.shaped (.list (pys (xs.map f))) = true := by
    have := hf.ls.shp (by omega) xs S
    have e : pyOf S (lsD f xs) = .list (pys (xs.map f)) := hf.ls.flat xs S
    unfold Pu.shp at this
    rw [e] at this
    simpa using this
  have h0 : SeqAt.shaped (f x).py = true := by
    have := hf.shp (by omega) x S
    unfold Pu.shp at this
    rw [hf.flat] at this
    simpa using this
  have h2 : ((pys (xs.map f)).any fun z => PyData.eqv z (f x).py) = decide (x ∈ xs) := by
    clear h1
    induction xs with
    | nil => rfl
    | cons y xs ih =>
      rw [List.map_cons]
      show (PyData.eqv (f y).py (f x).py || (pys (xs.map f)).any _) = _
      rw [ih]
      have : PyData.eqv (f y).py (f x).py = decide (y = x) := by
        by_cases e : y = x
        · rw [decide_eq_true e]; exact (hf.eqv y x).mpr e
        · rw [decide_eq_false e]
          exact Bool.eq_false_iff.mpr fun h => e ((hf.eqv y x).mp h)
      rw [this]
      by_cases e : y = x
      · simp [e]
      · simp [e, show ¬ x = y from fun z => e z.symm]
  unfold inD
  simp only [dcOf, lsOf]
  rw [if_pos ⟨h0, h1⟩, h2]
noncomputable def oRet (o : Option (Int × Int)) (E : En) (S : Sto) : SRes := match o with
  | some z => .ret (adR (some z)) S
  | none => .next E S
noncomputable abbrev E11 (F0 : D) (xs : List Int) (lo lots : D) (x4 x5 x6 x7 : Option D) : En := [some F0, some (lI xs), some lo, some lots, x4, x5, x6, x7, none, none, none]
theorem read_turn (S : Sto) (F0 : D) (xs : List Int) (lo lots fr : D) (t : List Int) (h5 : 5 ≤ t.length) : turn [5, 6, 7] (.nm 5) b_law_read_2 (lI t) (E11 F0 xs lo lots (some fr) none none none) S = oRet (adQ t) (E11 F0 xs lo lots (some fr) none none none) S := by
  have x4 : ixD (lI t) (.int (-4)) S = .ok (.int (t[t.length - 4]?.getD 0)) S := by
    show opt (atI (t.map D.int) (-4)) S = _
    have e : ixN (t.map D.int).length (-4) = some (t.length - 4) := by
      rw [List.length_map]
      unfold ixN
      rw [if_neg (by decide), if_pos (by omega)]
      congr 1
      omega
    unfold atI
    rw [e]
    show opt ((t.map D.int)[t.length - 4]?) S = _
    rw [List.getElem?_map, List.getElem?_eq_getElem (by omega)]
    rfl
  have x0 : ixD (lI t) (.int 0) S = .ok (.int (t[0]?.getD 0)) S := by
    show opt (atI (t.map D.int) 0) S = _
    rw [atI_0, List.getElem?_map, List.getElem?_eq_getElem (by omega)]
    rfl
  have ng : negD (.int 4) S = .ok (.int (-4)) S := rfl
  have gt : gtD (.int (t[t.length - 4]?.getD 0)) (.int 0) S = .ok (.bl (decide (0 < t[t.length - 4]?.getD 0))) S := gtD_i
  unfold adQ
  by_cases h : 0 < t[t.length - 4]?.getD 0
  · rw [if_pos h]
    rw [decide_eq_true h] at gt
    let e0 : En := E11 F0 xs lo lots (some fr) (some (lI t)) (some (.int 0)) none
    have pk : pk3D (lI t) S = .ok (.lst ((((t.drop 1).take (t.length - 4)).reverse).map D.int)) S := by
      show pk3D (.lst (t.map D.int)) S = _
      rw [pk3D_lst, pick3_is]
    have nw := num_walk S e0 ((((t.drop 1).take (t.length - 4)).reverse).map D.int) (by show 7 < 11; decide) (((t.drop 1).take (t.length - 4)).reverse) 0
    rw [num_fold, Int.zero_mul, Int.add_zero] at nw
    have nf : sFor [7] (.nm 7) (iS (e1 pk3D (eVar 5))) b_law_read_1 (E11 F0 xs lo lots (some fr) (some (lI t)) (some (.int 0)) none) S = .next (E11 F0 xs lo lots (some fr) (some (lI t)) (some (.int (numF ((t.drop 1).take (t.length - 4))))) none) S := by
      rw [forS_lst (xs := (((t.drop 1).take (t.length - 4)).reverse).map D.int) (by simp only [goS, pk])]
      exact nw
    simp only [turn, b_law_read_2, goS, ng, x4, gt, if_true, nf, x0]
    rfl
  · rw [if_neg h]
    rw [decide_eq_false h] at gt
    simp only [turn, b_law_read_2, goS, ng, x4, gt, Bool.false_eq_true, if_false]
    rfl
theorem read_made (S : Sto) (F0 : D) (xs : List Int) (lo lots fr : D) (ys : List D) : ∀ ts : List (List Int), (∀ t ∈ ts, 5 ≤ t.length) → forD [5, 6, 7] (.nm 5) (.tmp ys) b_law_read_2 (ts.map lI) (E11 F0 xs lo lots (some fr) none none none) S = oRet (ts.findSome? adQ) (E11 F0 xs lo lots (some fr) none none none) S
  | [], _ => forD_nil trivial
  | t :: ts, h => by
    rw [List.map_cons, forD_cons (show (Src.tmp ys).ok S from trivial), read_turn S F0 xs lo lots fr t (h t List.mem_cons_self), List.findSome?_cons]
    cases adQ t with
    | some z => rfl
    | none => exact read_made S F0 xs lo lots fr ys ts fun x hx => h x (List.mem_cons_of_mem _ hx)
theorem filled_len {xs : List Int} {free : List Nat} {t : List Int} (h : t ∈ filledL xs free) : t.length = xs.length := by
  obtain ⟨h1, _⟩ := List.mem_filter.mp h
  obtain ⟨way, _, rfl⟩ := List.mem_map.mp h1
  exact made_len xs free way
theorem read_lot (S : Sto) (F0 : D) (xs : List Int) (lo lots : D) (free : List Nat) (hx : Wd xs) (hf : Fr xs.length free) : turn [4, 5, 6, 7] (.nm 4) b_law_read_3 (lN free) (E11 F0 xs lo lots none none none none) S = oRet ((filledL xs free).findSome? adQ) (E11 F0 xs lo lots none none none none) S := by
  have hi := hx.hi
  have fl := filled_law S xs free hx.rg hf.l3 hf.lt (by omega)
  have fm := read_made S F0 xs lo lots (lN free) ((filledL xs free).map lI) (filledL xs free) fun t ht => by rw [filled_len ht]; exact hx.lo
  have ff : sFor [5, 6, 7] (.nm 5) (iS (eFn F_law_filled [(eVar 1), (eVar 4)])) b_law_read_2 (E11 F0 xs lo lots (some (lN free)) none none none) S = oRet ((filledL xs free).findSome? adQ) (E11 F0 xs lo lots (some (lN free)) none none none) S := by
    rw [forS_lst (xs := (filledL xs free).map lI) (by simp only [goS, fl]), fm]
  simp only [turn, b_law_read_3, goS, ff]
  cases (filledL xs free).findSome? adQ <;> rfl
theorem read_lots (S : Sto) (F0 : D) (xs : List Int) (lo lots : D) (hx : Wd xs) (ys : List D) : ∀ fs : List (List Nat), (∀ f ∈ fs, Fr xs.length f) → forD [4, 5, 6, 7] (.nm 4) (.tmp ys) b_law_read_3 (fs.map lN) (E11 F0 xs lo lots none none none none) S = oRet (fs.findSome? fun f => (filledL xs f).findSome? adQ) (E11 F0 xs lo lots none none none none) S
  | [], _ => forD_nil trivial
  | f :: fs, h => by
    rw [List.map_cons, forD_cons (show (Src.tmp ys).ok S from trivial), read_lot S F0 xs lo lots f hx (h f List.mem_cons_self), List.findSome?_cons]
    cases (filledL xs f).findSome? adQ with
    | some z => rfl
    | none => exact read_lots S F0 xs lo lots hx ys fs fun x hx' => h x (List.mem_cons_of_mem _ hx')
theorem in_lN (free : List Nat) (i : Nat) (S : Sto) : inD true (.int (i : Nat)) (lN free) S = .ok (.bl (!decide (i ∈ free))) S := by
  have := inL_rp21 Rp.int (by decide) (i : Int) (free.map fun j : Nat => (j : Int)) true S
  rw [List.map_map] at this
  refine this.trans ?_
  rw [if_pos rfl]
  have e : ((i : Int) ∈ free.map fun j : Nat => (j : Int)) ↔ i ∈ free := by
    rw [List.mem_map]
    exact ⟨fun ⟨j, hj, e⟩ => by rw [show i = j by omega]; exact hj, fun h => ⟨i, h, rfl⟩⟩
  rw [decide_eq_decide.mpr e]
theorem read_law (S : Sto) (fs : List (List Nat)) (hf : ∀ f ∈ fs, f.length = 5 ∧ ∀ c ∈ f, Bar c) (h5 : 5 ≤ fs.length) (h30 : fs.length ≤ 30) : F_law_read [.lst (mp fs)] S = .ok (adR (readQ (fs.map symO))) S := by
  let ss := fs.map symO
  have sl : ss.length = fs.length := List.length_map _
  have hr : RgO ss := fun s hs x hx => by
    obtain ⟨f, _, rfl⟩ := List.mem_map.mp hs
    exact symO_rng hx
  have wd := plain_wd (ss := ss) (by omega) (by omega) hr
  have sv : ∀ f ∈ fs, symV f = (symO f).getD 31 := fun f h => symV_O (hf f h).1
  let vs := fs.map symV
  have vl : vs.length = fs.length := List.length_map _
  have vat : ∀ i, i < fs.length → vs[i]? = some ((ss[i]?.getD none).getD 31) := fun i hi => by
    show (fs.map symV)[i]? = some (((fs.map symO)[i]?.getD none).getD 31)
    rw [List.getElem?_map, List.getElem?_map, List.getElem?_eq_getElem hi, Option.map_some, Option.map_some, sv _ (List.getElem_mem hi)]
    rfl
  have k1 : nLc [8] (.nm 8) (iS (eVar 0)) tYesD (eIf (eTB (e2 (inD false) (eC (.str "?")) (eVar 8))) (eC (.int 31)) (eFn F_law_value [(eVar 8)])) [some (.lst (mp fs)), none, none, none, none, none, none, none, none, none, none] S = .ok (.lst (vs.map D.int)) S := by
    refine nLcS_lst (xs := mp fs) rfl (by rw [mp_len]; omega) ?_
    show lcD _ (.tmp (mp fs)) _ _ _ (fs.map fun l => D.str (tx l)) S = .ok ((fs.map symV).map D.int) S
    rw [List.map_map]
    refine lc_all (fun l => D.str (tx l)) (D.int ∘ symV) fs fun f h => ⟨[some (.lst (mp fs)), none, none, none, none, none, none, none, some (.str (tx f)), none, none], rfl, ?_⟩
    have iq := in_q f S
    have lv := lawvalue_is S f (hf f h).2
    by_cases h63 : 63 ∈ f
    · rw [decide_eq_true h63] at iq
      simp only [goS, iq, if_true, Function.comp, symV, if_pos h63]
    · rw [decide_eq_false h63] at iq
      simp only [goS, iq, Bool.false_eq_true, if_false, lv, Function.comp, symV, if_neg h63]
  have ln1 : lenD [lI vs] S = .ok (.int (fs.length : Nat)) S := by
    show lenD [.lst (vs.map D.int)] S = _
    rw [lenD_lst, List.length_map, vl]
  have k2 : nLc [9] (.nm 9) (iR1 (eCall lenD [(eVar 1)])) (eTB (e2 (eqD false) (e2 ixD (eVar 1) (eVar 9)) (eC (.int 31)))) (eVar 9) [some (.lst (mp fs)), some (lI vs), none, none, none, none, none, none, none, none, none] S = .ok (.lst ((lostL ss).map fun i : Nat => D.int (i : Int))) S := by
    refine nLcR1 (n := fs.length) (by simp only [goS, ln1]) (by omega) ?_
    rw [rng_map]
    have e : lostL ss = (List.range fs.length).filter fun i => decide (ss[i]? = some none) := by unfold lostL; rw [sl]
    rw [e]
    refine lc_map (tg := .nm 9) (fun i : Nat => D.int (i : Int)) (fun i => decide (ss[i]? = some none)) (fun i : Nat => D.int (i : Int)) (List.range fs.length) fun i hi => ⟨[some (.lst (mp fs)), some (lI vs), none, none, none, none, none, none, none, some (.int (i : Nat)), none], rfl, ?_, fun _ => rfl⟩
    have hi' := List.mem_range.mp hi
    have ix : ixD (lI vs) (.int (i : Nat)) S = .ok (.int ((ss[i]?.getD none).getD 31)) S := by
      show opt (atI (vs.map D.int) _) S = _
      rw [atI_cast, List.getElem?_map, vat i hi']
      rfl
    have eq : eqD false (.int ((ss[i]?.getD none).getD 31)) (.int 31) S = .ok (.bl (decide (ss[i]? = some none))) S := by
      rw [eqD_int]
      have hs : i < ss.length := by omega
      rw [List.getElem?_eq_getElem hs]
      cases e2 : ss[i] with
      | none => simp
      | some y =>
        have := hr ss[i] (List.getElem_mem hs) y e2
        simp
        omega
    simp only [goS, ix, eq]
  have lnl : lenD [lN (lostL ss)] S = .ok (.int ((lostL ss).length : Nat)) S := by
    show lenD [.lst _] S = _
    rw [lenD_lst, List.length_map]
  show _ = Res.ok (adR (readQ ss)) S
  unfold readQ
  by_cases h3 : 3 < (lostL ss).length
  · rw [if_pos h3]
    have gt : gtD (.int ((lostL ss).length : Nat)) (.int 3) S = .ok (.bl true) S := by rw [gtD_i, decide_eq_true (by omega)]
    have k2' : nLc [9] (.nm 9) (iR1 (eCall lenD [(eVar 1)])) (eTB (e2 (eqD false) (e2 ixD (eVar 1) (eVar 9)) (eC (.int 31)))) (eVar 9) [some (.lst (mp fs)), some (.lst (vs.map D.int)), none, none, none, none, none, none, none, none, none] S = _ := k2
    have lnl' : lenD [.lst ((lostL ss).map fun i : Nat => D.int (i : Int))] S = _ := lnl
    simp only [F_law_read, runD, b_law_read, go0, goS, k1, k2', lnl', gt, if_true]
    exact fin_same rfl
  · rw [if_neg h3]
    have gt : gtD (.int ((lostL ss).length : Nat)) (.int 3) S = .ok (.bl false) S := by rw [gtD_i, decide_eq_false (by omega)]
    have k4 : nLc [10] (.nm 10) (iS (eVar 1)) tYesD (e2 modD (eVar 10) (eC (.int 31))) [some (.lst (mp fs)), some (.lst (vs.map D.int)), some (lN (lostL ss)), none, none, none, none, none, none, none, none] S = .ok (.lst ((plainL ss).map D.int)) S := by
      refine nLcS_lst (xs := vs.map D.int) rfl (by rw [List.length_map]; omega) ?_
      show lcD _ (.tmp _) _ _ _ ((fs.map symV).map D.int) S = .ok (((fs.map symO).map fun s => s.getD 0).map D.int) S
      rw [List.map_map, List.map_map, List.map_map]
      refine lc_all (tg := .nm 10) (D.int ∘ symV) ((D.int ∘ fun s : Option Int => s.getD 0) ∘ symO) fs fun f h => ⟨[some (.lst (mp fs)), some (.lst (fs.map (D.int ∘ symV))), some (lN (lostL ss)), none, none, none, none, none, none, none, some (.int (symV f))], rfl, ?_⟩
      have md : modD (.int (symV f)) (.int 31) S = .ok (.int (symV f % 31)) S := modD_pos (by decide)
      have e : symV f % 31 = (symO f).getD 0 := by
        rw [sv f h]
        cases e2 : symO f with
        | none => rfl
        | some y =>
          have := symO_rng e2
          show y % 31 = y
          omega
      simp only [goS, md, e, Function.comp]
    have lnp : lenD [lI (plainL ss)] S = .ok (.int (fs.length : Nat)) S := by
      show lenD [.lst ((plainL ss).map D.int)] S = _
      rw [lenD_lst, List.length_map, plainL, List.length_map, sl]
    have pl : (plainL ss).length = ss.length := by rw [plainL, List.length_map]
    have fr : ∀ free ∈ susp (lostL ss) ss.length, Fr (plainL ss).length free := fun free hf' => by
      rw [pl]
      exact (susp_fr (by omega) (lost_nodup ss) (n := ss.length) (fun i hi => (List.getElem?_eq_some_iff.mp (mem_lost.mp hi)).1) free hf').1
    have rl := fun (lots : D) => read_lots S (.lst (mp fs)) (plainL ss) (lN (lostL ss)) lots wd ((susp (lostL ss) ss.length).map lN) (susp (lostL ss) ss.length) fr
    have fin : ∀ o : Option (Int × Int), retD .frz S ((oRet o (E11 (.lst (mp fs)) (plainL ss) (lN (lostL ss)) (.lst ((susp (lostL ss) ss.length).map lN)) none none none none) S).seq (sRet (eC .non))) = .ok (adR o) S := fun o => by
      cases o with
      | none => exact fin_same rfl
      | some z => exact fin_same (adR_gnd (some z))
    have fgt : ∀ o : Option (Int × Int), fgtR [4, 5, 6, 7] (oRet o (E11 (.lst (mp fs)) (plainL ss) (lN (lostL ss)) (.lst ((susp (lostL ss) ss.length).map lN)) none none none none) S) = oRet o (E11 (.lst (mp fs)) (plainL ss) (lN (lostL ss)) (.lst ((susp (lostL ss) ss.length).map lN)) none none none none) S := fun o => by
      cases o <;> rfl
    have k2' : nLc [9] (.nm 9) (iR1 (eCall lenD [(eVar 1)])) (eTB (e2 (eqD false) (e2 ixD (eVar 1) (eVar 9)) (eC (.int 31)))) (eVar 9) [some (.lst (mp fs)), some (.lst (vs.map D.int)), none, none, none, none, none, none, none, none, none] S = .ok (.lst ((lostL ss).map fun i : Nat => D.int (i : Int))) S := k2
    have lnl' : lenD [.lst ((lostL ss).map fun i : Nat => D.int (i : Int))] S = .ok (.int ((lostL ss).length : Nat)) S := lnl
    have k4' : nLc [10] (.nm 10) (iS (eVar 1)) tYesD (e2 modD (eVar 10) (eC (.int 31))) [some (.lst (mp fs)), some (.lst (vs.map D.int)), some (.lst ((lostL ss).map fun i : Nat => D.int (i : Int))), none, none, none, none, none, none, none, none] S = .ok (.lst ((plainL ss).map D.int)) S := k4
    have loop : sFor [4, 5, 6, 7] (.nm 4) (iS (eVar 3)) b_law_read_3 [some (.lst (mp fs)), some (.lst ((plainL ss).map D.int)), some (.lst ((lostL ss).map fun i : Nat => D.int (i : Int))), some (.lst ((susp (lostL ss) ss.length).map lN)), none, none, none, none, none, none, none] S = oRet ((susp (lostL ss) ss.length).findSome? fun f => (filledL (plainL ss) f).findSome? adQ) (E11 (.lst (mp fs)) (plainL ss) (lN (lostL ss)) (.lst ((susp (lostL ss) ss.length).map lN)) none none none none) S := by
      rw [forS_lst (xs := (susp (lostL ss) ss.length).map lN) rfl]
      exact rl (.lst ((susp (lostL ss) ss.length).map lN))
    by_cases h2 : (lostL ss).length < 2
    · have lt : ltD (.int ((lostL ss).length : Nat)) (.int 2) S = .ok (.bl true) S := by rw [ltD_i, decide_eq_true (by omega)]
      have k5 : nLc [9] (.nm 9) (iR1 (eCall lenD [(eVar 1)])) (eTB (e2 (inD true) (eVar 9) (eVar 2))) (e2 addD (eVar 2) (eAno (nLst [(eVar 9)]))) [some (.lst (mp fs)), some (.lst ((plainL ss).map D.int)), some (.lst ((lostL ss).map fun i : Nat => D.int (i : Int))), some (.lst [.lst ((lostL ss).map fun i : Nat => D.int (i : Int))]), none, none, none, none, none, none, none] S = .ok (.lst (((others ss.length (lostL ss)).map fun p => lostL ss ++ [p]).map lN)) S := by
        have lnp' : lenD [.lst ((plainL ss).map D.int)] S = .ok (.int (fs.length : Nat)) S := lnp
        refine nLcR1 (n := fs.length) (by simp only [goS, lnp']) (by omega) ?_
        rw [rng_map, List.map_map]
        unfold others
        rw [sl]
        refine lc_map (tg := .nm 9) (fun i : Nat => D.int (i : Int)) (fun i => decide (i ∉ lostL ss)) (lN ∘ fun p => lostL ss ++ [p]) (List.range fs.length) fun i hi => ⟨[some (.lst (mp fs)), some (.lst ((plainL ss).map D.int)), some (.lst ((lostL ss).map fun i : Nat => D.int (i : Int))), some (.lst [.lst ((lostL ss).map fun i : Nat => D.int (i : Int))]), none, none, none, none, none, some (.int (i : Nat)), none], rfl, ?_, fun _ => ?_⟩
        · have := in_lN (lostL ss) i S
          have this : inD true (.int (i : Nat)) (.lst ((lostL ss).map fun i : Nat => D.int (i : Int))) S = .ok (.bl (!decide (i ∈ lostL ss))) S := this
          simp only [goS, this, decide_not]
        · have ad : addD (.lst ((lostL ss).map fun i : Nat => D.int (i : Int))) (.lst [.int (i : Nat)]) S = .ok (lN (lostL ss ++ [i])) S := by
            rw [Pu.addL (by rw [List.length_map]; simp; omega)]
            unfold lN
            rw [List.map_append]
            rfl
          simp only [goS, ad, Function.comp]
      have a2 : addD (.lst [.lst ((lostL ss).map fun i : Nat => D.int (i : Int))]) (.lst (((others ss.length (lostL ss)).map fun p => lostL ss ++ [p]).map lN)) S = .ok (.lst ((susp (lostL ss) ss.length).map lN)) S := by
        have ol : (others ss.length (lostL ss)).length ≤ 30 := by
          unfold others
          exact Nat.le_trans (List.length_filter_le _ _) (by rw [List.length_range]; omega)
        rw [Pu.addL (by simp; omega)]
        unfold susp
        rw [if_neg (by omega)]
        rfl
      simp only [F_law_read, runD, b_law_read, go0, goS, k1, k2', lnl', gt, Bool.false_eq_true, if_false, k4', lt, if_true, k5, a2, loop, fgt]
      exact fin _
    · have lt : ltD (.int ((lostL ss).length : Nat)) (.int 2) S = .ok (.bl false) S := by rw [ltD_i, decide_eq_false (by omega)]
      have es : (D.lst [.lst ((lostL ss).map fun i : Nat => D.int (i : Int))]) = .lst ((susp (lostL ss) ss.length).map lN) := by
        unfold susp
        rw [if_pos (by omega)]
        rfl
      simp only [F_law_read, runD, b_law_read, go0, goS, k1, k2', lnl', gt, Bool.false_eq_true, if_false, k4', lt, es, loop, fgt]
      exact fin _
theorem s_13 : Str.ofString "slslsl?slslsl" = tx [115, 108, 115, 108, 115, 108, 63, 115, 108, 115, 108, 115, 108] := by decide +kernel
theorem s_nil0 : Str.ofString "" = tx [] := by decide +kernel
noncomputable def Good5 (f : List Nat) : Prop := f.length = 5 ∧ ∀ c ∈ f, Bar c
theorem five_drawn {S : Sto} {k : Nat} (hk : k < S.length) (x : Int) (x1 : D) (x5 : Option D) : ∃ (f : List Nat) (y : Int), Good5 f ∧ (eM "str" joinD (eC (.str "")) [(eAno (nLc [6] (.nm 6) (iR1 (eC (.int 5))) tYesD (e2 ixD (eC (.str "slslsl?slslsl")) (eFn F_law_digit [(eVar 0), (eC (.int 13))]))))]) [some (.ref k), some x1, none, none, none, x5, none, none] (Dg S k x) = .ok (.str (tx f)) (Dg S k y) := by
  obtain ⟨ds, S', q, y, cs, hS, hd, hl, hb⟩ := lc_inv (tg := .nm 6) (f := e2 ixD (eC (.str "slslsl?slslsl")) (eFn F_law_digit [(eVar 0), (eC (.int 13))])) (e := [some (.ref k), some x1, none, none, none, x5, none, none]) (ys := rngD 0 ((5 : Nat) : Int)) (fun i U acc => ∃ (y : Int) (cs : List Nat), U = Dg S k y ∧ acc = (cs.map fun c => [c]).map (fun l => D.str (tx l)) ∧ cs.length = i ∧ ∀ c ∈ cs, Bar c) (rngD 0 ((5 : Nat) : Int)) 0 (Dg S k x) [] ⟨x, [], rfl, rfl, rfl, by simp⟩ (fun i U acc z hz ⟨y, cs, hU, ha, hl, hb⟩ => by
    subst hU
    have d13 := dig (x := y) (m := 13) hk (by decide) (by decide)
    have b0 : 0 ≤ y % 13 := Int.emod_nonneg _ (by decide)
    have b1 : y % 13 < 13 := Int.emod_lt_of_pos _ (by decide)
    obtain ⟨j, hj⟩ := Int.eq_ofNat_of_zero_le b0
    have hj13 : j < 13 := by omega
    have hc : ∃ c, [115, 108, 115, 108, 115, 108, 63, 115, 108, 115, 108, 115, 108][j]? = some c ∧ Bar c := by
      have hm : ∀ c ∈ [115, 108, 115, 108, 115, 108, 63, 115, 108, 115, 108, 115, 108], Bar c := fun c hc => by
        simp only [List.mem_cons, List.not_mem_nil, or_false] at hc
        unfold Bar
        omega
      refine ⟨_, List.getElem?_eq_getElem (show j < [115, 108, 115, 108, 115, 108, 63, 115, 108, 115, 108, 115, 108].length from hj13), hm _ (List.getElem_mem _)⟩
    obtain ⟨c, hc1, hc2⟩ := hc
    have ix := tx_ix (a := [115, 108, 115, 108, 115, 108, 63, 115, 108, 115, 108, 115, 108]) (Dg S k (y / 13)) (by decide) (j := (j : Nat)) (c := c) (by rw [atI_cast]; exact hc1)
    refine ⟨[some (.ref k), some x1, none, none, none, x5, some z, none], .str (tx [c]), Dg S k (y / 13), rfl, ?_, y / 13, cs ++ [c], rfl, by rw [ha]; simp, by simp; omega, fun d hd => ?_⟩
    · simp only [goS, d13, hj, s_13, ix]
    · rcases List.mem_append.mp hd with hd | hd
      · exact hb d hd
      · rw [List.mem_singleton.mp hd]; exact hc2)
  subst hS
  rw [Nat.zero_add, rngD_len] at hl
  rw [List.nil_append] at hd
  refine ⟨cs, y, ⟨hl, hb⟩, ?_⟩
  have n1 : nLc [6] (.nm 6) (iR1 (eC (.int 5))) tYesD (e2 ixD (eC (.str "slslsl?slslsl")) (eFn F_law_digit [(eVar 0), (eC (.int 13))])) [some (.ref k), some x1, none, none, none, x5, none, none] (Dg S k x) = .ok (.lst ((cs.map fun c => [c]).map fun l => D.str (tx l))) (Dg S k y) := by
    rw [← hd]
    exact nLcR1s (n := 5) rfl (by decide) q
  have fl : (cs.map fun c => [c]).flatten = cs := by
    clear hl hb hd q n1
    induction cs with
    | nil => rfl
    | cons c cs ih => rw [List.map_cons, List.flatten_cons, ih]; rfl
  have sm : ((cs.map fun c => [c]).map List.length).sum ≤ 16777216 := by
    have : ((cs.map fun c => [c]).map List.length).sum = cs.length := by
      clear hl hb hd q n1 fl
      induction cs with
      | nil => rfl
      | cons c cs ih => rw [List.map_cons, List.map_cons, List.sum_cons, ih, List.length_cons]; simp; omega
    rw [this, hl]
    decide
  have jn := joinD_tx (S := Dg S k y) (ls := cs.map fun c => [c]) sm
  rw [fl] at jn
  simp only [goS, n1, s_nil0, isT_str, if_true, jn]
theorem text_drawn {S : Sto} {k : Nat} (hk : k < S.length) (x : Int) : ∃ (fs : List (List Nat)) (y : Int), (∀ f ∈ fs, Good5 f) ∧ 5 ≤ fs.length ∧ fs.length ≤ 30 ∧ F_law_text [.ref k] (Dg S k x) = .ok (.lst (mp fs)) (Dg S k y) := by
  have d3 := dig (x := x) (m := 3) hk (by decide) (by decide)
  by_cases h1 : x % 3 = 1
  · have e1 : eqD false (.int (x % 3)) (.int 1) (Dg S k (x / 3)) = .ok (.bl true) (Dg S k (x / 3)) := by rw [eqD_int, decide_eq_true h1]
    have d4 := dig (x := x / 3) (m := 4) hk (by decide) (by decide)
    have b0 : 0 ≤ x / 3 % 4 := Int.emod_nonneg _ (by decide)
    have b1 : x / 3 % 4 < 4 := Int.emod_lt_of_pos _ (by decide)
    obtain ⟨m, hm⟩ := Int.eq_ofNat_of_zero_le (show 0 ≤ 5 + x / 3 % 4 by omega)
    obtain ⟨ds, S', q, y, fs, hS, hd, hl, hb⟩ := lc_inv (tg := .nm 5) (f := eM "str" joinD (eC (.str "")) [(eAno (nLc [6] (.nm 6) (iR1 (eC (.int 5))) tYesD (e2 ixD (eC (.str "slslsl?slslsl")) (eFn F_law_digit [(eVar 0), (eC (.int 13))]))))]) (e := [some (.ref k), some (.int (m : Nat)), none, none, none, none, none, none]) (ys := rngD 0 (m : Int)) (fun i U acc => ∃ (y : Int) (fs : List (List Nat)), U = Dg S k y ∧ acc = mp fs ∧ fs.length = i ∧ ∀ f ∈ fs, Good5 f) (rngD 0 (m : Int)) 0 (Dg S k (x / 3 / 4)) [] ⟨x / 3 / 4, [], rfl, rfl, rfl, by simp⟩ (fun i U acc z hz ⟨y, fs, hU, ha, hl, hb⟩ => by
      subst hU
      obtain ⟨f, y', g1, g2⟩ := five_drawn hk y (.int (m : Nat)) (some z)
      refine ⟨[some (.ref k), some (.int (m : Nat)), none, none, none, some z, none, none], .str (tx f), Dg S k y', rfl, g2, y', fs ++ [f], rfl, ?_, by simp; omega, fun d hd => ?_⟩
      · rw [ha]
        unfold mp
        simp
      · rcases List.mem_append.mp hd with hd | hd
        · exact hb d hd
        · rw [List.mem_singleton.mp hd]; exact g1)
    subst hS
    rw [Nat.zero_add, rngD_len] at hl
    rw [List.nil_append] at hd
    have n1 : nLc [5] (.nm 5) (iR1 (eVar 1)) tYesD (eM "str" joinD (eC (.str "")) [(eAno (nLc [6] (.nm 6) (iR1 (eC (.int 5))) tYesD (e2 ixD (eC (.str "slslsl?slslsl")) (eFn F_law_digit [(eVar 0), (eC (.int 13))]))))]) [some (.ref k), some (.int (m : Nat)), none, none, none, none, none, none] (Dg S k (x / 3 / 4)) = .ok (.lst (mp fs)) (Dg S k y) := by
      rw [← hd]
      exact nLcR1s (n := m) rfl (by omega) q
    refine ⟨fs, y, hb, by omega, by omega, ?_⟩
    have ad : addD (.int 5) (.int (x / 3 % 4)) (Dg S k (x / 3 / 4)) = .ok (.int (m : Nat)) (Dg S k (x / 3 / 4)) := by rw [addD_int, hm]
    simp only [F_law_text, runD, b_law_text, go0, goS, d3, e1, if_true, d4, ad, n1]
    exact fin_dg0 hk (by rw [gnd_lst]; exact mp_gnd fs)
  · have e1 : eqD false (.int (x % 3)) (.int 1) (Dg S k (x / 3)) = .ok (.bl false) (Dg S k (x / 3)) := by rw [eqD_int, decide_eq_false h1]
    have d4 := dig (x := x / 3) (m := 4) hk (by decide) (by decide)
    have lt : ∃ p : Int, (p = 8 ∨ p = 26) ∧ ixD (.tup [.int 8, .int 8, .int 8, .int 26]) (.int (x / 3 % 4)) (Dg S k (x / 3 / 4)) = .ok (.int p) (Dg S k (x / 3 / 4)) := by
      have b0 : 0 ≤ x / 3 % 4 := Int.emod_nonneg _ (by decide)
      have b1 : x / 3 % 4 < 4 := Int.emod_lt_of_pos _ (by decide)
      have c : x / 3 % 4 = 0 ∨ x / 3 % 4 = 1 ∨ x / 3 % 4 = 2 ∨ x / 3 % 4 = 3 := by omega
      rcases c with c | c | c | c <;> rw [c]
      · exact ⟨8, .inl rfl, rfl⟩
      · exact ⟨8, .inl rfl, rfl⟩
      · exact ⟨8, .inl rfl, rfl⟩
      · exact ⟨26, .inr rfl, rfl⟩
    obtain ⟨p, hp, ix⟩ := lt
    have dp := dig (x := x / 3 / 4) (m := p) hk (by omega) (by rcases hp with rfl | rfl <;> decide)
    have c0 : 0 ≤ x / 3 / 4 % p := Int.emod_nonneg _ (by omega)
    have c1 : x / 3 / 4 % p < p := Int.emod_lt_of_pos _ (by omega)
    obtain ⟨m, hm⟩ := Int.eq_ofNat_of_zero_le (show 0 ≤ 1 + x / 3 / 4 % p by omega)
    obtain ⟨a, y, hA, hAl, qa⟩ := address (S := S) (k := k) (x := x / 3 / 4 / p) hk m (by omega) (by omega)
    have fl := fives_lc (.ref k) a hA (Dg S k y) [some (.ref k), none, some (adD a), none, none, none, none, none] 2 7 rfl (by simp) (by decide)
    have dw := dig (x := y) (m := 3) hk (by decide) (by decide)
    have w0 : 0 ≤ y % 3 := Int.emod_nonneg _ (by decide)
    have w1' : y % 3 < 3 := Int.emod_lt_of_pos _ (by decide)
    obtain ⟨w, hw⟩ := Int.eq_ofNat_of_zero_le w0
    have du := dig (x := y / 3) (m := 5 - (w : Int)) hk (by omega) (by
      have c : w = 0 ∨ w = 1 ∨ w = 2 := by omega
      rcases c with rfl | rfl | rfl <;> decide)
    have u0 : 0 ≤ y / 3 % (5 - (w : Int)) := Int.emod_nonneg _ (by omega)
    have u1 : y / 3 % (5 - (w : Int)) < 5 - (w : Int) := Int.emod_lt_of_pos _ (by omega)
    obtain ⟨u, hu⟩ := Int.eq_ofNat_of_zero_le u0
    have sl := symL_len a
    have l1 := hA.l1
    have l2 := hA.l2
    obtain ⟨wr, lo, made, y2, ew, eu, hB, q3⟩ := bent_is (x := y / 3 / (5 - (w : Int))) hk (symL a) (symL_rng hA) (by omega) w u (by omega)
    have hl := hB.len
    refine ⟨made, y2, fun f hf => hB.each f hf, by omega, by omega, ?_⟩
    have ad : addD (.int 1) (.int (x / 3 / 4 % p)) (Dg S k (x / 3 / 4 / p)) = .ok (.int (m : Nat)) (Dg S k (x / 3 / 4 / p)) := by rw [addD_int, hm]
    simp only [F_law_text, runD, b_law_text, go0, goS, d3, e1, Bool.false_eq_true, if_false, d4, ix, dp, ad, qa, fl, dw, hw, subD_i, du, hu, q3]
    exact fin_dg0 hk (by rw [gnd_lst]; exact mp_gnd made)
theorem law_turn (ns : List Int) (k : Nat) (hk : k ≤ 1000) (S : Sto) : ∃ S', turn [1, 2] (.nm 1) blaw_1 (.int (k : Int)) [some (.fls (ns.map D.int)), none, none] S = .next [some (.fls (ns.map D.int)), none, none] S' := by
  obtain ⟨N, q1⟩ := drawnB ns k hk S
  have hkk : S.length < (S ++ [DO.lst [.int N]]).length := by simp
  obtain ⟨fs, y, h1, h2, h3, q2⟩ := text_drawn (S := S ++ [DO.lst [.int N]]) (k := S.length) hkk N
  rw [Dg_of last_at] at q2
  have hb : ∀ c ∈ fs.flatten, Bar c := fun c hc => by
    obtain ⟨f, hf, hcf⟩ := List.mem_flatten.mp hc
    exact (h1 f hf).2 c hcf
  have h5 : ∀ f ∈ fs, f.length = 5 := fun f hf => (h1 f hf).1
  have fl := flat5 h5
  have rd := read_is (Dg (S ++ [DO.lst [.int N]]) S.length y) fs.flatten (by rw [fl]; omega) hb
  rw [readL_of h5 h2 h3] at rd
  have rl := read_law (Dg (S ++ [DO.lst [.int N]]) S.length y) fs h1 h2 h3
  have hr : RgO (fs.map symO) := fun s hs x hx => by
    obtain ⟨f, _, rfl⟩ := List.mem_map.mp hs
    exact symO_rng hx
  rw [readQ_eq (by rw [List.length_map]; exact h2) (by rw [List.length_map]; exact h3) hr] at rl
  have sm : (fs.map List.length).sum ≤ 16777216 := by
    rw [← List.length_flatten, fl]
    omega
  have jn := joinD_mp (S := Dg (S ++ [DO.lst [.int N]]) S.length y) (ls := fs) sm
  have ne : eqD true (adR (readO (fs.map symO))) (adR (readO (fs.map symO))) (Dg (S ++ [DO.lst [.int N]]) S.length y) = .ok (.bl false) (Dg (S ++ [DO.lst [.int N]]) S.length y) := by
    cases readO (fs.map symO) with
    | none =>
      show eqD true .non .non _ = _
      unfold eqD
      rfl
    | some p =>
      have := rpRow.ne (by decide) p p (Dg (S ++ [DO.lst [.int N]]) S.length y)
      rw [decide_eq_true rfl] at this
      exact this
  refine ⟨Dg (S ++ [DO.lst [.int N]]) S.length y, ?_⟩
  simp only [turn, blaw_1, goS, ap_nLst, q1, q2, s_nil0, isT_str, if_true, jn, rd, rl, ne, Bool.false_eq_true, if_false]
theorem math : ∀ ns : List Int, ns.length ≤ 63 → ∃ S, Flaw [.fls (ns.map D.int)] [] = .ok (.bl true) S := by
  intro ns hl
  obtain ⟨m, hm, hr⟩ := rounds ns 2 (by decide) (by decide) [some (.fls (ns.map D.int)), none, none] rfl
  obtain ⟨e', S', q, he⟩ := for_inv0 (dead := [1, 2]) (tg := .nm 1) (body := blaw_1) (e := [some (.fls (ns.map D.int)), none, none]) (S := []) (ys := rngD 0 m) (xs := rngD 0 m)
    (fun _ e _ => e = [some (.fls (ns.map D.int)), none, none]) rfl (fun i e S x hx he => by
      subst he
      rw [rng_map, List.getElem?_map, Option.map_eq_some_iff] at hx
      obtain ⟨k, hk, rfl⟩ := hx
      have hk' : k < m := List.mem_range.mp (List.mem_of_getElem? hk)
      obtain ⟨S', t⟩ := law_turn ns k (by omega) S
      exact ⟨_, S', t, rfl⟩)
  subst he
  refine ⟨S'.take 0, ?_⟩
  simp only [Flaw, runD, blaw, go0, goS]
  rw [forR1 (n := m) hr (by omega), q]
  simp only [goS]
  exact fin_frz ⟨Nat.zero_le _, fun k o hk => absurd hk (by simp)⟩ rfl
end Lw
open PySem PySem.W PyProof.Rows
set_option maxRecDepth 100000 in
set_option maxHeartbeats 0 in
theorem PySem.Challenge.cw_walkframe_k21_any_bars_read_holds : PySem.Challenge.rw_walkframe_k21_any_bars_read.Holds := by
  w_on; o_law; k_head; (case hw => w_witness2)
  k_fill
  refine L2.walk_of (l := PySem.Challenge.rw_walkframe_k21_any_bars_read) (n := 63) (k := 7) (x := "_law_script") (CX := fun w => L2N.CX PySem.Challenge.pw_walkframe_k21_any_bars_read w) (sp := fun w => Pu.SpD _ (fun _ => 0) 1 Lw.Flaw) rfl (by decide) rfl ⟨rfl, by decide, by decide⟩ (fun w h Y => PySem.W.kIn_of Y) ?F (fun w H a ns hl _ hs => Pu.law_sp Lw.math H a ns hl hs) (fun w H s e s' h => Pu.cx_no h)
  case F =>
    intro w mg fa h KX G hmg
    refine' Lw.all_ok KX G hmg ?a0 ?l0 ?c0 ?k0 ?a1 ?l1 ?c1 ?k1 ?a2 ?l2 ?c2 ?k2 ?a3 ?l3 ?c3 ?k3 ?a4 ?l4 ?c4 ?k4 ?a5 ?l5 ?c5 ?k5 ?a6 ?l6 ?c6 ?k6 ?a7 ?l7 ?c7 ?k7 ?a8 ?l8 ?c8 ?k8 ?a9 ?l9 ?c9 ?k9 ?a10 ?l10 ?c10 ?k10 ?a11 ?l11 ?c11 ?k11 ?a12 ?l12 ?c12 ?k12 ?a13 ?l13 ?c13 ?k13 ?a14 ?l14 ?c14 ?k14 ?a15 ?l15 ?c15 ?k15 ?a16 ?l16 ?c16 ?k16 ?a17 ?l17 ?c17 ?k17 ?a18 ?l18 ?c18 ?k18 ?a19 ?l19 ?c19 ?k19 ?a20 ?l20 ?c20 ?k20 ?a21 ?l21 ?c21 ?k21 ?a22 ?l22 ?c22 ?k22 ?a23 ?l23 ?c23 ?k23 ?a24 ?l24 ?c24 ?k24 ?a25 ?l25 ?c25 ?k25 ?z_all ?z_enumerate ?z_int ?z_len ?z_list ?z_min ?z_range ?z_reversed ?z_sum ?z_zip ?g_BARS ?g_BASE ?g_LEAST_FIVES ?g_LONG ?g_LOST ?g_MOST_FIVES ?g_MOST_UNCLEAR ?g_SHORT ?g_SUMS
    (case a0 => k_is)
    (case l0 => k_is)
    (case c0 => k_is)
    (case k0 => k_is)
    (case a1 => k_is)
    (case l1 => k_is)
    (case c1 => k_is)
    (case k1 => k_is)
    (case a2 => k_is)
    (case l2 => k_is)
    (case c2 => k_is)
    (case k2 => k_is)
    (case a3 => k_is)
    (case l3 => k_is)
    (case c3 => k_is)
    (case k3 => k_is)
    (case a4 => k_is)
    (case l4 => k_is)
    (case c4 => k_is)
    (case k4 => k_is)
    (case a5 => k_is)
    (case l5 => k_is)
    (case c5 => k_is)
    (case k5 => k_is)
    (case a6 => k_is)
    (case l6 => k_is)
    (case c6 => k_is)
    (case k6 => k_is)
    (case a7 => k_is)
    (case l7 => k_is)
    (case c7 => k_is)
    (case k7 => k_is)
    (case a8 => k_is)
    (case l8 => k_is)
    (case c8 => k_is)
    (case k8 => k_is)
    (case a9 => k_is)
    (case l9 => k_is)
    (case c9 => k_is)
    (case k9 => k_is)
    (case a10 => k_is)
    (case l10 => k_is)
    (case c10 => k_is)
    (case k10 => k_is)
    (case a11 => k_is)
    (case l11 => k_is)
    (case c11 => k_is)
    (case k11 => k_is)
    (case a12 => k_is)
    (case l12 => k_is)
    (case c12 => k_is)
    (case k12 => k_is)
    (case a13 => k_is)
    (case l13 => k_is)
    (case c13 => k_is)
    (case k13 => k_is)
    (case a14 => k_is)
    (case l14 => k_is)
    (case c14 => k_is)
    (case k14 => k_is)
    (case a15 => k_is)
    (case l15 => k_is)
    (case c15 => k_is)
    (case k15 => k_is)
    (case a16 => k_is)
    (case l16 => k_is)
    (case c16 => k_is)
    (case k16 => k_is)
    (case a17 => k_is)
    (case l17 => k_is)
    (case c17 => k_is)
    (case k17 => k_is)
    (case a18 => k_is)
    (case l18 => k_is)
    (case c18 => k_is)
    (case k18 => k_is)
    (case a19 => k_is)
    (case l19 => k_is)
    (case c19 => k_is)
    (case k19 => k_is)
    (case a20 => k_is)
    (case l20 => k_is)
    (case c20 => k_is)
    (case k20 => k_is)
    (case a21 => k_is)
    (case l21 => k_is)
    (case c21 => k_is)
    (case k21 => k_is)
    (case a22 => k_is)
    (case l22 => k_is)
    (case c22 => k_is)
    (case k22 => k_is)
    (case a23 => k_is)
    (case l23 => k_is)
    (case c23 => k_is)
    (case k23 => k_is)
    (case a24 => k_is)
    (case l24 => k_is)
    (case c24 => k_is)
    (case k24 => k_is)
    (case a25 => k_is)
    (case l25 => k_is)
    (case c25 => k_is)
    (case k25 => k_is)
    (case z_all => k_is)
    (case z_enumerate => k_is)
    (case z_int => k_is)
    (case z_len => k_is)
    (case z_list => k_is)
    (case z_min => k_is)
    (case z_range => k_is)
    (case z_reversed => k_is)
    (case z_sum => k_is)
    (case z_zip => k_is)
    (case g_BARS => k_is)
    (case g_BASE => k_is)
    (case g_LEAST_FIVES => k_is)
    (case g_LONG => k_is)
    (case g_LOST => k_is)
    (case g_MOST_FIVES => k_is)
    (case g_MOST_UNCLEAR => k_is)
    (case g_SHORT => k_is)
    (case g_SUMS => k_is)
