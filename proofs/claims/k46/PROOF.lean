import PyProof.Rows.All
import Wide.All
import OpenK.AllK
import Wide.FinOn
import HandS.ForMost
import HandS.ForExc
import HandS.Defaults
import KE.KDictKeyed
import KE.KDictCopyH
import HandS.TupAny
import HandS.Star
import KE.LtData
import KE.DataCmp
import KE.DataMinMax
import KE.SortData
import HandS.Dict
import HandS.Lambda
import HandS.TupMul
import HandS.Wide
import HandS.Deep
import HandS.Style
import HandS.Iter
import HandS.DictComp
import KE.KDictWalk
import HandS.IsInst
import HandS.Gcd
import HandS.TupLen
import KE.DataFind
import HandS.ExcOwn
import HandS.Zip
import KE.GoesEnum
import KE.GoesZip
import KE.GoesMore
import HandS.Nested
import KE.KDictSum
import HandS.DictSubView
import HandS.DictTup
import HandS.TupSets
import HandS.SetFor
import HandS.Strs
import HandS.HeadHook4
import HandS.HeadEnd
import HandS.Ends
import HandS.EndTab
import HandS.HeadWalk
import HandS.Words
import HandS.Head0
import HandS.Head1
import HandS.Head2
import PySem.Challenge.RW_guesswords_k46_totals
set_option Elab.async false
set_option linter.all false
set_option maxRecDepth 100000
section
set_option maxHeartbeats 2000000
namespace Ev
open PySem PySem.Spec PyProof.Rows L2

/-- deep values -/
inductive D where
  | non | bl (b : Bool) | int (i : Int) | str (s : Str)
  | tup (l : List D) | lst (l : List D) | flst (l : List D) | dct (l : List (D × D))
  | ref (i : Nat) | fn (x : Str)
  deriving Inhabited

mutual
/-- as a key of a dict -/
def D.nk : D → NestedKey
  | .int i => .num i
  | .str x => .text x
  | .tup l => .tup (D.nks l)
  | .non => .none
  | .bl _ => .none
  | .lst _ => .none
  | .flst _ => .none
  | .dct _ => .none
  | .ref _ => .none
  | .fn _ => .none
def D.nks : List D → List NestedKey
  | [] => []
  | d :: r => d.nk :: D.nks r
end
mutual
def D.isK : D → Bool
  | .int _ => true
  | .str _ => true
  | .tup l => D.isKs l
  | .non => false
  | .bl _ => false
  | .lst _ => false
  | .flst _ => false
  | .dct _ => false
  | .ref _ => false
  | .fn _ => false
def D.isKs : List D → Bool
  | [] => true
  | d :: r => d.isK && D.isKs r
end
/-- keys of dicts -/
def D.key (d : D) : Bool := d.isK && decide (d.nk.depth ≤ 8)
def D.isT : D → Bool
  | .tup _ => true
  | _ => false
/-- a dict's pairs: keys all tuples or all flat, no two the same -/
structure KvOk (kvs : List (D × D)) : Prop where
  key : ∀ p ∈ kvs, p.1.key = true
  nd : (kvs.map fun p => p.1.nk).Nodup
  hom : (∀ p ∈ kvs, p.1.isT = true) ∨ ∀ p ∈ kvs, p.1.isT = false
  len : kvs.length ≤ sizeLine
/-- what is fixed through a law -/
structure En where
  mu : Addr → Prop
  H : Hp
  m : List Addr
structure Wd where
  w : World
  K : PySem.W.Frag
  mg : Str → Option Value
  cl : Option (Addr × En) := none
  tabs : List (Addr × Str) := []

/-- a dict by its raw entries -/
def DictO (p : Addr) (es : Array DictEntry × Nat) : HO := .ext fun h => (p == sysModules) = false ∧ ∃ o : Obj, h.get? p = some o ∧ o.ExactDict ∧ o.data = .dict es.1 es.2
theorem DictO_ne_tup {p es xs} : DictO p es ≠ .tup xs := fun z => by unfold DictO at z; cases z
theorem DictO_ne_lst {p es xs} : DictO p es ≠ .lst xs := fun z => by unfold DictO at z; cases z
theorem DictO_ne_frz {p es o u} : DictO p es ≠ .frz o u := fun z => by unfold DictO at z; cases z
theorem DictO_ne_ins {p es a b c} : DictO p es ≠ .ins a b c := fun z => by unfold DictO at z; cases z

/-- a tuple without a dict of its own -/
def SqD (K : PySem.W.Frag) (H : Hp) (p : Addr) (vs : List V) : Prop := (∃ o : Obj, H p = some (.frz o (.tup vs)) ∧ o.dict = none) ∨
  ∃ (o : Obj) (its : Array Value) (n : Nat), K.lookup p = some o ∧ o.cls = .type "tuple" ∧ o.dict = none ∧ o.data = .seq its n ∧ its.size ≤ sizeLine ∧ Vals vs its.toList
theorem SqD.t {K H p vs} (h : SqD K H p vs) : SqT K H p vs := by
  rcases h with ⟨o, h, _⟩ | ⟨o, its, n, h1, h2, _, h3, h4, h5⟩
  · exact .inl (.inr ⟨o, h⟩)
  · exact .inr ⟨o, its, n, h1, h2, h3, h4, h5⟩
/-- a list that nobody changes -/
def FzL (mu : Addr → Prop) (H : Hp) (p : Addr) (vs : List V) : Prop := H p = some (.lst vs) ∧ ¬ mu p
theorem FzL.sq {K mu H p vs} (h : FzL mu H p vs) : SqL K H p vs := .inl (.inl h.1)
/-- a list that is known by its object: the script -/
def FlL (K : PySem.W.Frag) (mu : Addr → Prop) (H : Hp) (p : Addr) (vs : List V) : Prop := ((∃ o, H p = some (.frz o (.lst vs))) ∧ ¬ mu p) ∨
  ∃ (o : Obj) (its : Array Value) (n : Nat), K.lookup p = some o ∧ o.cls = .type "list" ∧ o.dict = none ∧ o.data = .seq its n ∧ its.size ≤ sizeLine ∧ Vals vs its.toList
theorem FlL.sq {K mu H p vs} (h : FlL K mu H p vs) : SqL K H p vs := h.elim (fun h => .inl (.inr h.1)) .inr

section
variable (W : Wd) (mu : Addr → Prop) (m : List Addr) (H : Hp)
mutual
def Rep : D → V → Prop
  | .non, v => v = .non
  | .bl b, v => v = .bl b
  | .int i, v => v = .int i
  | .str s, v => v = .str s
  | .tup ds, v => ∃ p vs, v = .ref p ∧ SqD W.K H p vs ∧ Reps ds vs
  | .lst ds, v => ∃ p vs, v = .ref p ∧ FzL mu H p vs ∧ Reps ds vs
  | .flst ds, v => ∃ p vs, v = .ref p ∧ FlL W.K mu H p vs ∧ Reps ds vs
  | .dct kvs, v => ∃ p es, v = .ref p ∧ H p = some (DictO p es) ∧ ¬ mu p ∧ KvOk kvs ∧ RepE kvs es.1.toList
  | .ref i, v => ∃ p, v = .ref p ∧ m[i]? = some p
  | .fn x, v => ∃ f, v = .ref f ∧ W.mg x = some (.ref f)
def Reps : List D → List V → Prop
  | [], vs => vs = []
  | d :: ds, vs => ∃ v r, vs = v :: r ∧ Rep d v ∧ Reps ds r
def RepE : List (D × D) → List DictEntry → Prop
  | [], es => es = []
  | (k, d) :: r, es => ∃ e er x y, es = e :: er ∧ RelV x e.key ∧ Rep k x ∧ e.hash = k.nk.hash W.w ∧ RelV y e.val ∧ Rep d y ∧ RepE r er
end
end

/-- what was not to be changed stands, and is not to be changed -/
structure Le (mu : Addr → Prop) (H : Hp) (mu' : Addr → Prop) (H' : Hp) : Prop where
  keep : ∀ a o, H a = some o → ¬ mu a → H' a = some o
  stay : ∀ a o, H a = some o → ¬ mu a → ¬ mu' a
theorem Le.refl (mu H) : Le mu H mu H := ⟨fun _ _ h _ => h, fun _ _ _ h => h⟩
theorem Le.trans {a b c : Addr → Prop} {H1 H2 H3} (x : Le a H1 b H2) (y : Le b H2 c H3) : Le a H1 c H3 :=
  ⟨fun p o h n => y.keep p o (x.keep p o h n) (x.stay p o h n), fun p o h n => y.stay p o (x.keep p o h n) (x.stay p o h n)⟩
/-- mutable things are no tuples, no frozen things -/
def MuOk (mu : Addr → Prop) (H : Hp) : Prop := ∀ a, mu a → ∃ o, H a = some o ∧ (∀ xs, o ≠ .tup xs) ∧ (∀ ob u, o ≠ .frz ob u)

section
variable {W : Wd} {mu mu' : Addr → Prop} {m m' : List Addr} {H H' : Hp}
theorem Le.sqD (l : Le mu H mu' H') (ok : MuOk mu H) {p vs} (h : SqD W.K H p vs) : SqD W.K H' p vs := by
  rcases h with ⟨o, h, d⟩ | h
  · refine .inl ⟨o, l.keep _ _ h fun z => ?_, d⟩
    obtain ⟨o', e', n1, n2⟩ := ok p z
    rw [h] at e'
    cases e'
    exact n2 _ _ rfl
  · exact .inr h
theorem Le.flL {K} (l : Le mu H mu' H') {p vs} (h : FlL K mu H p vs) : FlL K mu' H' p vs := h.elim (fun ⟨⟨o, s⟩, n⟩ => .inl ⟨⟨o, l.keep _ _ s n⟩, l.stay _ _ s n⟩) .inr
theorem Le.fzL (l : Le mu H mu' H') {p vs} (h : FzL mu H p vs) : FzL mu' H' p vs := ⟨l.keep _ _ h.1 h.2, l.stay _ _ h.1 h.2⟩
mutual
theorem Rep.mono (l : Le mu H mu' H') (ok : MuOk mu H) (hm : m <+: m') : ∀ {d v}, Rep W mu m H d v → Rep W mu' m' H' d v
  | .non, _, h => h
  | .bl _, _, h => h
  | .int _, _, h => h
  | .str _, _, h => h
  | .tup ds, v, h => by
    obtain ⟨p, vs, e, s, r⟩ := h
    exact ⟨p, vs, e, l.sqD ok s, Reps.mono l ok hm r⟩
  | .lst ds, v, h => by
    obtain ⟨p, vs, e, s, r⟩ := h
    exact ⟨p, vs, e, l.fzL s, Reps.mono l ok hm r⟩
  | .flst ds, v, h => by
    obtain ⟨p, vs, e, s, r⟩ := h
    exact ⟨p, vs, e, l.flL s, Reps.mono l ok hm r⟩
  | .dct kvs, v, h => by
    obtain ⟨p, es, e, s, n, k, r⟩ := h
    exact ⟨p, es, e, l.keep _ _ s n, l.stay _ _ s n, k, RepE.mono l ok hm r⟩
  | .ref i, v, h => by
    obtain ⟨p, e, s⟩ := h
    refine ⟨p, e, ?_⟩
    obtain ⟨t, rfl⟩ := hm
    rw [List.getElem?_append_left (List.getElem?_eq_some_iff.mp s).1]
    exact s
  | .fn x, v, h => h
theorem Reps.mono (l : Le mu H mu' H') (ok : MuOk mu H) (hm : m <+: m') : ∀ {ds vs}, Reps W mu m H ds vs → Reps W mu' m' H' ds vs
  | [], _, h => h
  | d :: ds, vs, h => by
    obtain ⟨v, r, e, h1, h2⟩ := h
    exact ⟨v, r, e, Rep.mono l ok hm h1, Reps.mono l ok hm h2⟩
theorem RepE.mono (l : Le mu H mu' H') (ok : MuOk mu H) (hm : m <+: m') : ∀ {kvs es}, RepE W mu m H kvs es → RepE W mu' m' H' kvs es
  | [], _, h => h
  | (k, d) :: r, es, h => by
    obtain ⟨e, er, x, y, q, h1, h2, h3, h4, h5, h6⟩ := h
    exact ⟨e, er, x, y, q, h1, Rep.mono l ok hm h2, h3, h4, Rep.mono l ok hm h5, RepE.mono l ok hm h6⟩
end

theorem Reps.length : ∀ {ds : List D} {vs : List V}, Reps W mu m H ds vs → ds.length = vs.length
  | [], _, h => by cases h; rfl
  | d :: ds, _, h => by
    obtain ⟨v, r, rfl, _, h2⟩ := h
    simp [Reps.length h2]
theorem Reps.get : ∀ {ds : List D} {vs : List V} {i : Nat} {d : D}, Reps W mu m H ds vs → ds[i]? = some d → ∃ v, vs[i]? = some v ∧ Rep W mu m H d v
  | [], _, _, _, _, e => by simp at e
  | d :: ds, _, 0, _, h, e => by
    obtain ⟨v, r, rfl, h1, h2⟩ := h
    simp at e
    subst e
    exact ⟨v, rfl, h1⟩
  | d :: ds, _, i + 1, _, h, e => by
    obtain ⟨v, r, rfl, h1, h2⟩ := h
    obtain ⟨u, a, b⟩ := Reps.get (i := i) h2 (by simpa using e)
    exact ⟨u, by simpa using a, b⟩
theorem Reps.get' : ∀ {ds : List D} {vs : List V} {i : Nat} {v : V}, Reps W mu m H ds vs → vs[i]? = some v → ∃ d, ds[i]? = some d ∧ Rep W mu m H d v
  | [], _, _, _, h, e => by cases h; simp at e
  | d :: ds, _, 0, _, h, e => by
    obtain ⟨v, r, rfl, h1, h2⟩ := h
    simp at e
    subst e
    exact ⟨d, rfl, h1⟩
  | d :: ds, _, i + 1, _, h, e => by
    obtain ⟨v, r, rfl, h1, h2⟩ := h
    obtain ⟨u, a, b⟩ := Reps.get' (i := i) h2 (by simpa using e)
    exact ⟨u, by simpa using a, b⟩
theorem Reps.append : ∀ {ds es : List D} {vs us : List V}, Reps W mu m H ds vs → Reps W mu m H es us → Reps W mu m H (ds ++ es) (vs ++ us)
  | [], _, _, _, h, h' => by cases h; exact h'
  | d :: ds, _, _, _, h, h' => by
    obtain ⟨v, r, rfl, h1, h2⟩ := h
    exact ⟨v, _, rfl, h1, Reps.append h2 h'⟩
theorem Reps.one {d : D} {v : V} (h : Rep W mu m H d v) : Reps W mu m H [d] [v] := ⟨v, [], rfl, h, rfl⟩
theorem Reps.drop : ∀ {ds : List D} {vs : List V} (n : Nat), Reps W mu m H ds vs → Reps W mu m H (ds.drop n) (vs.drop n)
  | [], _, _, h => by cases h; simp; rfl
  | _ :: _, _, 0, h => h
  | d :: ds, _, n + 1, h => by
    obtain ⟨v, r, rfl, h1, h2⟩ := h
    simpa using Reps.drop n h2
theorem Reps.take : ∀ {ds : List D} {vs : List V} (n : Nat), Reps W mu m H ds vs → Reps W mu m H (ds.take n) (vs.take n)
  | [], _, _, h => by cases h; simp; rfl
  | _ :: _, _, 0, h => rfl
  | d :: ds, _, n + 1, h => by
    obtain ⟨v, r, rfl, h1, h2⟩ := h
    exact ⟨v, _, rfl, h1, Reps.take n h2⟩
theorem Reps.set : ∀ {ds : List D} {vs : List V} (n : Nat) {d v}, Reps W mu m H ds vs → Rep W mu m H d v → Reps W mu m H (ds.set n d) (vs.set n v)
  | [], _, _, _, _, h, _ => by cases h; simp; rfl
  | _ :: _, _, 0, _, _, h, h' => by
    obtain ⟨v, r, rfl, h1, h2⟩ := h
    exact ⟨_, _, rfl, h', h2⟩
  | d :: ds, _, n + 1, _, _, h, h' => by
    obtain ⟨v, r, rfl, h1, h2⟩ := h
    exact ⟨v, _, rfl, h1, Reps.set n h2 h'⟩
theorem Reps.eraseIdx : ∀ {ds : List D} {vs : List V} (n : Nat), Reps W mu m H ds vs → Reps W mu m H (ds.eraseIdx n) (vs.eraseIdx n)
  | [], _, _, h => by cases h; simp; rfl
  | _ :: _, _, 0, h => by
    obtain ⟨v, r, rfl, h1, h2⟩ := h
    exact h2
  | d :: ds, _, n + 1, h => by
    obtain ⟨v, r, rfl, h1, h2⟩ := h
    exact ⟨v, _, rfl, h1, Reps.eraseIdx n h2⟩
theorem Reps.reverse : ∀ {ds : List D} {vs : List V}, Reps W mu m H ds vs → Reps W mu m H ds.reverse vs.reverse
  | [], _, h => by cases h; rfl
  | d :: ds, _, h => by
    obtain ⟨v, r, rfl, h1, h2⟩ := h
    rw [List.reverse_cons, List.reverse_cons]
    exact Reps.append (Reps.reverse h2) (Reps.one h1)
end
end Ev
end
section
set_option maxHeartbeats 2000000
namespace Ev
open PySem PySem.Spec PyProof.Rows L2
/-- a new tuple -/
def TupN (H : Hp) (vs : List V) (Q : VK) : Prop := ∀ p o, H p = none → o.dict = none → Q (.ref p) (upd H p (.frz o (.tup vs)))
section
variable {X : Cx} {pins : List (Addr × Obj)} {σ : L2.St} {H : Hp} {s : Shared} {Q : VK}
theorem Inv.tupN {h' : Heap} {t' : Nat} {its : List Value} {vs : List V} (I : Inv X pins σ H s) (hp : h' = s.heap.push { cls := .type "tuple", data := .seq its.toArray }) (r : Vals vs its) (z : vs.length ≤ sizeLine) (q : TupN H vs Q) : EP X pins σ Q (.ref s.heap.objs.size) { s with heap := h', toks := t' } := by
  subst hp
  refine ⟨.ref s.heap.objs.size, _, I.laid (t' := t') (o := .frz { cls := .type "tuple", data := .seq its.toArray } (.tup vs)) (fun b ob q => Heap.get?_push_of_some _ q) (Nat.le_refl _) ?_, rfl, q _ _ (I.hok.fresh (Nat.le_refl _)) rfl⟩
  exact ⟨Heap.get?_push_size _ rfl, z, its, r, IsTup.new _ _⟩
variable {e : Expr} {es : List Expr} {te : TE} {t : TA} {pos : Pos}
def tTupN (t : TA) : TE := fun σ H Q => t σ H fun xs H1 => xs.length ≤ sizeLine ∧ TupN H1 xs Q
theorem pe_tupN {x1} (h : PA X es t) : PE X (.Tuple es x1 pos) (tTupN t) := by
  refine ⟨fun pins s σ H Q I hq => ?_⟩
  refine wpAny_Tuple_spliced (thn (h.run pos pins s σ H _ I hq) fun us s1 ⟨xs, H1, I1, r, z, q⟩ => ⟨by rw [← r.length]; exact z, ?_⟩)
  exact Inv.tupN (t' := s1.toks) I1 rfl r z q
def rCatN (K : PySem.W.Frag) : R2 := fun x y H Q => ∃ a b xs ys, x = .ref a ∧ y = .ref b ∧ SqT K H a xs ∧ SqT K H b ys ∧ xs.length + ys.length ≤ sizeLine ∧
  (xs = [] → Q (.ref b) H) ∧ (xs ≠ [] → ys = [] → Q (.ref a) H) ∧ (xs ≠ [] → ys ≠ [] → TupN H (xs ++ ys) Q)
theorem op_catN : OpR X (binaryOp .Add) (rCatN X.K) := by
  intro pins s σ H x y v u Q I rx ry h
  obtain ⟨a, b, xs, ys, rfl, rfl, ha, hb, hz, q0, q1, q2⟩ := h
  cases rx
  cases ry
  obtain ⟨its, r1, p1, _⟩ := I.tuple ha
  obtain ⟨its2, r2, p2, _⟩ := I.tuple hb
  by_cases hx : xs = []
  · subst hx
    cases r1
    exact L2.cat_tup0 p1 p2 ⟨.ref b, H, I, rfl, q0 rfl⟩
  · exact HT.cat_tup p1 p2 (fun z => hx (r1.nil_iff.mp z)) (fun z => ⟨.ref a, H, I, rfl, q1 hx (r2.nil_iff.mp z)⟩)
      (fun z => Inv.tupN (t' := s.toks) I rfl (r1.append r2) (by rw [List.length_append]; exact hz) (q2 hx fun w => z (r2.nil_iff.mpr w))) (by rw [← r1.length, ← r2.length]; exact hz)
def rSlN (K : PySem.W.Frag) : V → Option Int → Option Int → Hp → VK → Prop := fun x lo hi H Q => ∃ a xs, x = .ref a ∧ SqT K H a xs ∧
  (HT.sIx xs.length 0 lo = 0 ∧ HT.sIx xs.length xs.length hi = xs.length → Q (.ref a) H) ∧ (¬ (HT.sIx xs.length 0 lo = 0 ∧ HT.sIx xs.length xs.length hi = xs.length) → TupN H (cutV xs lo hi) Q)
theorem sl_tupN : L2.SlR X (rSlN X.K) := by
  intro pins s σ H x v vl vu lo hi sl Q I rx hs pl pu h
  obtain ⟨a, xs, rfl, hx, q1, q2⟩ := h
  cases rx
  obtain ⟨its, r, ht, hz⟩ := I.tuple hx
  have hlen : its.toArray.size = xs.length := by rw [List.size_toArray]; exact r.length.symm
  refine ⟨"tuple", _, PyProof.Rows.slot_tuple_getitem.lookup, ht.typeIs, ?_⟩
  by_cases hw : HT.sIx xs.length 0 lo = 0 ∧ HT.sIx xs.length xs.length hi = xs.length
  · exact L2.getItem_tuple_whole ht hs pl pu (by rw [hlen]; exact hw) ⟨.ref a, H, I, rfl, q1 hw⟩
  · refine HT.getItem_tuple_cut ht hs pl pu (by rw [hlen]; exact hw) ?_ (by rw [hlen]; exact hz)
    rw [hlen]
    exact Inv.tupN (t' := s.toks) I rfl ((r.drop (HT.sIx xs.length 0 lo)).take (HT.sIx xs.length xs.length hi - HT.sIx xs.length 0 lo)) (Nat.le_trans (cutV_length xs lo hi) hz) (q2 hw)
theorem call_tupleN : CallR X (.type "tuple") (fun xs H Q => ∃ p ys, xs = [.ref p] ∧ ((SqL X.K H p ys ∧ TupN H ys Q) ∨ (SqT X.K H p ys ∧ Q (.ref p) H))) := by
  intro pins s σ H xs us Q I r h
  obtain ⟨p, ys, rfl, h⟩ := h
  obtain ⟨u, rfl, rx⟩ := vals1 r
  cases rx
  rcases h with ⟨hq, q⟩ | ⟨hq, q⟩
  · obtain ⟨its, r', pl, hz⟩ := I.list hq
    have hlen := r'.length
    refine call_tuple_list pl.isList (fun h' kp => ?_) (by simp only [List.size_toArray] <;> omega)
    have I1 : Inv X pins σ H { s with heap := h' } := I.kept (t' := s.toks) kp
    exact Inv.tupN (t' := s.toks) I1 rfl r' hz q
  · obtain ⟨its, r', pl, hz⟩ := I.tuple hq
    exact call_tuple_same pl ⟨.ref p, H, I, rfl, q⟩
theorem call_divmodN : CallR X (.builtin "divmod") (fun xs H Q => ∃ i j, xs = [.int i, .int j] ∧ CDiv i j ∧ TupN H [.int (i / j), .int (i % j)] Q) := by
  intro pins s σ H xs us Q I r h
  obtain ⟨i, j, rfl, ⟨h1, h2⟩, q⟩ := h
  obtain ⟨u, w', rfl, ⟨t, rfl⟩, ⟨t', rfl⟩⟩ := vals2 r
  refine divmod_int (by omega) ?_ (.inl (PyProof.noPylong_small (by omega)))
  rw [Int.fdiv_eq_ediv_of_nonneg i (by omega), Int.fmod_eq_emod_of_nonneg i (by omega)]
  exact Inv.tupN I rfl (its := [.int (i / j) s.toks, .int (i % j) (s.toks + 1)]) (vs := [.int (i / j), .int (i % j)]) (.cons ⟨_, rfl⟩ (.cons ⟨_, rfl⟩ .nil)) (by simp only [List.length_cons, List.length_nil]; rw [sizeLine_eq]; decide) q
end
end Ev
end
section
set_option maxHeartbeats 2000000
namespace Ev
open PySem PySem.Spec PyProof.Rows L2
open PySem.W (dataLt alike)

/-! ### the IR -/
inductive BF where
  | len | abs | max1 | min1 | max2 | min2 | sum | sorted | sortset | lenset | all | any | tuple | list | int | bool | str | divmod | repr | gcd
  | isint | isbool | isstr | istup | islst | isdct
  deriving DecidableEq
inductive MF where
  | count | index | get1 | get2 | join | split
  deriving DecidableEq
inductive IT where
  | nm (i : Nat) | tp (l : List IT)
/-! ### the machine's own states -/
inductive AO where
  | lst (l : List D) | dct (l : List (D × D)) | ins (c : Str) (fs : List (Str × D)) | tab (q : Str)
abbrev AH := List AO
structure Ex where
  cls : Str
  fs : List (Str × D)
inductive R (α : Type) where
  | ok (a : α) (A : AH) | exc (x : Ex) (A : AH) | stuck
abbrev M (α : Type) := AH → R α
def M.pure {α : Type} (a : α) : M α := fun A => .ok a A
def M.bind {α β : Type} (x : M α) (f : α → M β) : M β := fun A => match x A with
  | .ok a A' => f a A'
  | .exc e A' => .exc e A'
  | .stuck => .stuck
instance : Monad M where
  pure := M.pure
  bind := M.bind
def stk {α : Type} : M α := fun _ => .stuck
def ofO {α : Type} : Option α → M α
  | some a => M.pure a
  | none => stk
def grd (b : Bool) : M Unit := if b then M.pure () else stk
/-- what may not raise -/
def calm {α : Type} (x : M α) : M α := fun A => match x A with
  | .ok a A' => .ok a A'
  | _ => .stuck

inductive Sl where
  | no | val (d : D) | own (l : List D) | ownD (l : List (D × D)) | clo
  deriving Inhabited
abbrev Env := List Sl
def getV (ρ : Env) (i : Nat) : Option D := match ρ[i]? with
  | some (.val d) => some d
  | _ => none
def getB (ρ : Env) (i : Nat) : Option D := match ρ[i]? with
  | some (.val d) => some d
  | some (.own l) => some (.lst l)
  | some (.ownD l) => some (.dct l)
  | _ => none

/-! ### pure operations -/
mutual
def D.py : D → PyData
  | .non => .none
  | .bl b => .bool b
  | .int i => .int i
  | .str x => .str x
  | .tup l => .tuple (D.pys l)
  | .lst l => .list (D.pys l)
  | .flst _ => .dict []
  | .dct _ => .dict []
  | .ref _ => .dict []
  | .fn _ => .dict []
def D.pys : List D → List PyData
  | [] => []
  | d :: r => d.py :: D.pys r
end
/-- data: what == and < are known of -/
def D.ok (d : D) : Bool := d.py.canLay0 && decide (d.py.depth ≤ 60)
def D.same (a b : D) : Bool := NestedKey.beq a.nk b.nk
def eqD (a b : D) : Bool := PyData.eqv a.py b.py
def ltD (a b : D) : Bool := dataLt a.py b.py
def alikeD (a b : D) : Bool := alike a.py b.py
def D.isNon : D → Bool
  | .non => true
  | _ => false
def alikes (l : List D) : Bool := l.all fun a => a.ok && !a.isNon && l.all fun b => alikeD a b
def small (i : Int) : Bool := decide (-(2 ^ 64) < i) && decide (i < 2 ^ 64)
def addD (a b : D) : Option D :=
  match a, b with
  | .int i, .int j => some (.int (i + j))
  | .str x, .str y => if x.length + y.length ≤ sizeLine then some (.str (x ++ y)) else none
  | .tup x, .tup y => if x.length + y.length ≤ sizeLine then some (.tup (x ++ y)) else none
  | .lst x, .lst y => if x.length + y.length ≤ sizeLine then some (.lst (x ++ y)) else none
  | _, _ => none
def subD (a b : D) : Option D :=
  match a, b with
  | .int i, .int j => some (.int (i - j))
  | _, _ => none
def mulD (a b : D) : Option D :=
  match a, b with
  | .int i, .int j => if small i || small j || decide (i.natAbs.log2 + j.natAbs.log2 < 1000000) then some (.int (i * j)) else none
  | .lst x, .int k => if decide (0 ≤ k) && decide (k < 2 ^ 62) && decide (x.length * k.toNat ≤ sizeLine) then some (.lst (List.replicate k.toNat x).flatten) else none
  | _, _ => none
def divD (a b : D) : Option D :=
  match a, b with
  | .int i, .int j => if decide (0 < j) && decide (j.natAbs.log2 < 9000) then some (.int (i / j)) else none
  | _, _ => none
def modD (a b : D) : Option D :=
  match a, b with
  | .int i, .int j => if 0 < j then some (.int (i % j)) else none
  | _, _ => none
def powD (a b : D) : Option D :=
  match a, b with
  | .int i, .int j => if decide (0 ≤ j) && decide (j ≤ 1000000) && decide (i.natAbs < 2 ^ 64) then some (.int (i ^ j.toNat)) else none
  | _, _ => none
def binD (op : Operator) (a b : D) : Option D :=
  match op with
  | .Add => addD a b
  | .Sub => subD a b
  | .Mult => mulD a b
  | .FloorDiv => divD a b
  | .Mod => modD a b
  | .Pow => powD a b
  | _ => none
def negD : D → Option D
  | .int i => some (.int (-i))
  | _ => none
def notD : D → Option D
  | .bl b => some (.bl (!b))
  | _ => none
def seqOf : D → Option (List D)
  | .tup l => some l
  | .lst l => some l
  | .flst l => some l
  | _ => none
def findK (k : D) : List (D × D) → Option D
  | [] => none
  | (a, v) :: r => if D.same a k then some v else findK k r
def putK (k v : D) : List (D × D) → List (D × D)
  | [] => [(k, v)]
  | (a, u) :: r => if D.same a k then (a, v) :: r else (a, u) :: putK k v r
def okK (k : D) (kvs : List (D × D)) : Bool := k.key && kvs.all fun p => p.1.isT == k.isT
def inD (x : D) (y : D) : Option Bool :=
  match y with
  | .dct kvs => if okK x kvs then some (findK x kvs).isSome else none
  | .tup l => if x.ok && l.all D.ok then some (l.any fun z => eqD z x) else none
  | .lst l => if x.ok && l.all D.ok then some (l.any fun z => eqD z x) else none
  | _ => none
def isD (a b : D) : Option Bool :=
  match a, b with
  | a, .non => some a.isNon
  | .bl i, .bl j => some (decide (i = j))
  | _, _ => none
def cmpD (op : CmpOp) (a b : D) : Option Bool :=
  match op with
  | .Eq => if a.ok && b.ok then some (eqD a b) else none
  | .NotEq => if a.ok && b.ok then some (!eqD a b) else none
  | .Lt => if a.ok && b.ok && alikeD a b && !a.isNon then some (ltD a b) else none
  | .LtE => if a.ok && b.ok && alikeD a b && !a.isNon then some (!ltD b a) else none
  | .Gt => if a.ok && b.ok && alikeD a b && !a.isNon then some (ltD b a) else none
  | .GtE => if a.ok && b.ok && alikeD a b && !a.isNon then some (!ltD a b) else none
  | .Is => isD a b
  | .IsNot => (isD a b).map (!·)
  | .In => inD a b
  | .NotIn => (inD a b).map (!·)
def idxD (a b : D) : Option D :=
  match a, b with
  | .tup l, .int i => atI l i
  | .lst l, .int i => atI l i
  | .flst l, .int i => atI l i
  | .dct kvs, k => if okK k kvs then findK k kvs else none
  | _, _ => none
def cutD (xs : List D) (lo hi : Option Int) : List D := (xs.drop (HT.sIx xs.length 0 lo)).take (HT.sIx xs.length xs.length hi - HT.sIx xs.length 0 lo)
def sliD (a : D) (lo hi : Option Int) : Option D :=
  match a with
  | .tup l => some (.tup (cutD l lo hi))
  | .lst l => some (.lst (cutD l lo hi))
  | .flst l => some (.lst (cutD l lo hi))
  | _ => none
def asInt : D → Option Int
  | .int i => some i
  | _ => none
def asBl : D → Option Bool
  | .bl b => some b
  | _ => none
def asStr : D → Option Str
  | .str x => some x
  | _ => none
def ints? : List D → Option (List Int)
  | [] => some []
  | .int i :: r => (ints? r).map (i :: ·)
  | _ => none
def bls? : List D → Option (List Bool)
  | [] => some []
  | .bl b :: r => (bls? r).map (b :: ·)
  | _ => none
def lenD : D → Option Nat
  | .tup l => some l.length
  | .lst l => some l.length
  | .flst l => some l.length
  | .dct l => some l.length
  | .str x => if x.length ≤ sizeLine then some x.length else none
  | _ => none
def leastD (x : D) (xs : List D) : D := xs.foldl (fun a y => if ltD y a then y else a) x
def mostD (x : D) (xs : List D) : D := xs.foldl (fun a y => if ltD a y then y else a) x
/-- 0, 1, .. -/
def rangeD (lo : Int) (n : Nat) : List D := (List.range n).map fun (k : Nat) => D.int (lo + (k : Int))
def zipD (xs ys : List D) : List D := (xs.zip ys).map fun p => .tup [p.1, p.2]
def enumD (xs : List D) : List D := (xs.zipIdx).map fun p => .tup [.int (p.2 : Nat), p.1]
def zipS (x y : D) : Option (List D) := match seqOf x, seqOf y with
  | some xs, some ys => some (zipD xs ys)
  | _, _ => none
def enumS : D → Option (List D)
  | .tup xs => some (enumD xs)
  | .lst xs => some (enumD xs)
  | .flst xs => some (enumD xs)
  | _ => none
def leD (a b : D) : Bool := !ltD b a
def sortable (l : List D) : Bool := l.all fun d => match d with
  | .tup (_ :: _) => true
  | _ => false
def sortD (l : List D) : Option (List D) :=
  if alikes l && (sortable l || l.all fun d => match d with
    | .int _ | .str _ | .lst _ => true
    | _ => false) && decide (l.length ≤ sizeLine) then some (l.mergeSort leD) else none
/-- each once, the first of each -/
def onceD : List D → List D
  | [] => []
  | d :: r => d :: (onceD r).filter fun e => !D.same e d
/-- the ascending row of what is in it -/
def setD (l : List D) : Option (List D) :=
  if l.all D.key && alikes l && (sortable l || l.all fun d => match d with
    | .int _ => true
    | _ => false) then some ((onceD l).mergeSort leD) else none
def absI (i : Int) : Int := if i < 0 then -i else i
def D.ty : D → Option String
  | .non => some "NoneType"
  | .bl _ => some "bool"
  | .int _ => some "int"
  | .str _ => some "str"
  | .tup _ => some "tuple"
  | .lst _ => some "list"
  | .flst _ => some "list"
  | .dct _ => some "dict"
  | _ => none
def isTy (x : D) (c : String) : Option D := match x.ty with
  | some t => some (.bl (t == c || (t == "bool" && c == "int")))
  | none => none
def bLen : List D → Option D
  | [x] => match lenD x with
    | some n => some (.int (n : Int))
    | none => none
  | _ => none
def bAbs : List D → Option D
  | [.int i] => some (.int (absI i))
  | _ => none
def bMax2 : List D → Option D
  | [.int i, .int j] => some (.int (if j > i then j else i))
  | _ => none
def bMin2 : List D → Option D
  | [.int i, .int j] => some (.int (if j < i then j else i))
  | _ => none
def bMax1 : List D → Option D
  | [.lst l] => match ints? l with
    | some (n :: ns) => some (.int (ns.foldl max n))
    | _ => none
  | _ => none
def bMin1 : List D → Option D
  | [.lst l] => match ints? l with
    | some (n :: ns) => some (.int (ns.foldl min n))
    | _ => none
  | _ => none
def bSum : List D → Option D
  | [.lst l] => match ints? l with
    | some ns => some (.int ns.sum)
    | none => none
  | _ => none
def bSorted : List D → Option D
  | [.lst l] => match sortD l with
    | some r => some (.lst r)
    | none => none
  | _ => none
def bSortset : List D → Option D
  | [x] => match seqOf x with
    | some l => match setD l with
      | some r => some (.lst r)
      | none => none
    | none => none
  | _ => none
def bLenset : List D → Option D
  | [x] => match seqOf x with
    | some l => if l.all D.key then some (.int ((onceD l).length : Int)) else none
    | none => none
  | _ => none
def bAll : List D → Option D
  | [.lst l] => match bls? l with
    | some bs => some (.bl (bs.all id))
    | none => none
  | _ => none
def bAny : List D → Option D
  | [.lst l] => match bls? l with
    | some bs => some (.bl (bs.any id))
    | none => none
  | _ => none
def bTuple : List D → Option D
  | [x] => match seqOf x with
    | some l => some (.tup l)
    | none => none
  | _ => none
def bList : List D → Option D
  | [x] => match seqOf x with
    | some l => some (.lst l)
    | none => none
  | _ => none
def bInt : List D → Option D
  | [.int i] => some (.int i)
  | [.bl b] => some (.int (if b then 1 else 0))
  | _ => none
def bBool : List D → Option D
  | [.bl b] => some (.bl b)
  | _ => none
def bStr : List D → Option D
  | [.int i] => if i.natAbs.log2 < 1920 then some (.str (toString i)) else none
  | _ => none
def bDivmod : List D → Option D
  | [.int i, .int j] => if 0 < j ∧ j < 1073741824 then some (.tup [.int (i / j), .int (i % j)]) else none
  | _ => none
def bRepr : List D → Option D
  | [x] => if x.ok && x.py.showable && decide (x.py.shown.length ≤ sizeLine) then some (.str x.py.shown) else none
  | _ => none
def bGcd : List D → Option D
  | [.int i, .int j] => some (.int (Nat.gcd i.natAbs j.natAbs : Nat))
  | _ => none
def bIs (c : String) : List D → Option D
  | [x] => isTy x c
  | _ => none
def minL (x : D) (l : List D) : D := l.foldl (fun a y => if ltD y a then y else a) x
def maxL (x : D) (l : List D) : D := l.foldl (fun a y => if ltD a y then y else a) x
/-- sorted(l), sorted(d) -/
def bSortedD : List D → Option D
  | [.dct kvs] => match sortD (kvs.map (·.1)) with
    | some r => some (.lst r)
    | none => none
  | xs => bSorted xs
/-- min(l), max(l): ints; else anything that can be compared -/
def bMinD : List D → Option D
  | [.lst (x :: l)] => if alikes (x :: l) then some (minL x l) else none
  | _ => none
def bMaxD : List D → Option D
  | [.lst (x :: l)] => if alikes (x :: l) then some (maxL x l) else none
  | _ => none
def bMinA (xs : List D) : Option D := match bMin1 xs with
  | some d => some d
  | none => bMinD xs
def bMaxA (xs : List D) : Option D := match bMax1 xs with
  | some d => some d
  | none => bMaxD xs
def bltD (f : BF) (xs : List D) : Option D :=
  match f with
  | .len => bLen xs
  | .abs => bAbs xs
  | .max1 => bMaxA xs
  | .min1 => bMinA xs
  | .max2 => bMax2 xs
  | .min2 => bMin2 xs
  | .sum => bSum xs
  | .sorted => bSortedD xs
  | .sortset => bSortset xs
  | .lenset => bLenset xs
  | .all => bAll xs
  | .any => bAny xs
  | .tuple => bTuple xs
  | .list => bList xs
  | .int => bInt xs
  | .bool => bBool xs
  | .str => bStr xs
  | .divmod => bDivmod xs
  | .repr => bRepr xs
  | .gcd => bGcd xs
  | .isint => bIs "int" xs
  | .isbool => bIs "bool" xs
  | .isstr => bIs "str" xs
  | .istup => bIs "tuple" xs
  | .islst => bIs "list" xs
  | .isdct => bIs "dict" xs
def mCount (o : D) (xs : List D) : Option D :=
  match o, xs with
  | .tup l, [x] => if x.ok && l.all D.ok then some (.int ((l.countP fun z => eqD z x : Nat) : Int)) else none
  | .lst l, [x] => if x.ok && l.all D.ok then some (.int ((l.countP fun z => eqD z x : Nat) : Int)) else none
  | _, _ => none
def mIndex (o : D) (xs : List D) : Option D :=
  match o, xs with
  | .lst l, [x] => if x.ok && (D.lst l).ok then (match l.findIdx? (fun z => eqD z x) with
    | some n => some (.int (n : Int))
    | none => none) else none
  | _, _ => none
def mGet1 (o : D) (xs : List D) : Option D :=
  match o, xs with
  | .dct kvs, [k] => if okK k kvs then some ((findK k kvs).getD .non) else none
  | _, _ => none
def mGet2 (o : D) (xs : List D) : Option D :=
  match o, xs with
  | .dct kvs, [k, d] => if okK k kvs then some ((findK k kvs).getD d) else none
  | _, _ => none
def mthD : MF → D → List D → Option D
  | .count => mCount
  | .index => mIndex
  | .get1 => mGet1
  | .get2 => mGet2
  | _ => fun _ _ => none
def mTys : MF → List String
  | .count => ["tuple", "list"]
  | .index => ["list"]
  | .get1 => ["dict"]
  | .get2 => ["dict"]
  | _ => []
def mthT (op : D → List D → Option D) (t : String) (o : D) (xs : List D) : Option D := if o.ty = some t then op o xs else none

def itemsOf : D → Option (List D)
  | .tup l => some l
  | .lst l => some l
  | .flst l => some l
  | .dct kvs => some (kvs.map (·.1))
  | _ => none
/-- a list at a heap place, read -/
def deref (A : AH) : D → D
  | .ref i => match A[i]? with
    | some (.lst l) => .lst l
    | some (.dct l) => .dct l
    | _ => .ref i
  | d => d
def tyAt (l : List String) (x : D) : M String := fun A => match (deref A x).ty with
  | some t => if t ∈ l then .ok t A else .stuck
  | none => .stuck
def compM {α : Type} : List D → (D → M (List α)) → M (List α)
  | [], _ => M.pure []
  | x :: xs, f => (f x).bind fun a => (compM xs f).bind fun b => M.pure (a ++ b)
def slot0 (ρ : Env) : List Nat → Option Env
  | [] => some ρ
  | i :: r => match slot0 ρ r with
    | some ρ' => match ρ'[i]? with
      | some (.own _) | some (.ownD _) | none => none
      | _ => some (ρ'.set i .no)
    | none => none
/-- all may be keys of one dict -/
def okKs (l : List (D × D)) : Bool := l.all fun p => okK p.1 l
def dctOf : List (D × D) → List (D × D) → List (D × D)
  | acc, [] => acc
  | acc, (k, v) :: r => dctOf (putK k v acc) r
/-- what may be stored to -/
def okSub (ρ : Env) (i : Nat) : Bool := match ρ[i]? with
  | some (.own _) => true
  | some (.ownD _) => true
  | some (.val (.ref _)) => true
  | _ => false
/-- a store to a name's own element -/
def setSub (ρ : Env) (A : AH) (i : Nat) (k d : D) : Option (Env × AH) :=
  match ρ[i]? with
  | some (.own l) => match k with
    | .int n => match ixN l.length n with
      | some j => some (ρ.set i (.own (l.set j d)), A)
      | none => none
    | _ => none
  | some (.ownD l) => if okK k l && decide (l.length < sizeLine) then some (ρ.set i (.ownD (putK k d l)), A) else none
  | some (.val (.ref r)) => match A[r]? with
    | some (.lst l) => match k with
      | .int n => match ixN l.length n with
        | some j => some (ρ, A.set r (.lst (l.set j d)))
        | none => none
      | _ => none
    | _ => none
  | _ => none
def setV (ρ : Env) (i : Nat) (d : D) : Option Env := match ρ[i]? with
  | some (.own _) | some (.ownD _) | none => none
  | _ => some (ρ.set i (.val d))

end Ev
end
section
set_option maxHeartbeats 2000000
namespace Ev
open PySem PySem.Spec PyProof.Rows L2
open PySem.W (dataLt alike)

abbrev Ow := Nat → Option Addr
def muOf (mu0 : Addr → Prop) (m : List Addr) (ow : Ow) : Addr → Prop := fun p => mu0 p ∨ p ∈ m ∨ ∃ i, ow i = some p

/-- a table of code objects, all of the name q -/
def TabR (mu : Addr → Prop) (H : Hp) (p : Addr) (q : Str) : Prop := ∃ ps : Array Value, H p = some (.tbl ps) ∧ TriplesOk ps.toList ∧ ∀ (pos : Pos) (cv : Value), codeAmong pos ps.toList = some cv → ∃ c, cv = .ref c ∧ H c = some (LamX.CodeO c q) ∧ ¬ mu c
theorem TabR.s {mu H p q} (h : TabR mu H p q) : LamX.TabS H p q := by
  obtain ⟨ps, h1, h2, h3⟩ := h
  exact ⟨ps, h1, h2, fun pos cv e => let ⟨c, a, b, _⟩ := h3 pos cv e; ⟨c, a, b⟩⟩
theorem TabR.mono {mu mu' H H' p q} (l : ∀ a o, H a = some o → ¬ mu a → H' a = some o ∧ ¬ mu' a) (h : TabR mu H p q) (e : H' p = H p) : TabR mu' H' p q := by
  obtain ⟨ps, h1, h2, h3⟩ := h
  refine ⟨ps, by rw [e]; exact h1, h2, fun pos cv hc => ?_⟩
  obtain ⟨c, a, b, n⟩ := h3 pos cv hc
  obtain ⟨b', n'⟩ := l c _ b n
  exact ⟨c, a, b', n'⟩
def AoR (W : Wd) (mu : Addr → Prop) (m : List Addr) (H : Hp) (p : Addr) : AO → Prop
  | .lst l => ∃ vs, H p = some (.lst vs) ∧ Reps W mu m H l vs
  | .dct l => ∃ es, H p = some (DictO p es) ∧ KvOk l ∧ RepE W mu m H l es.1.toList
  | .ins _ _ => False
  | .tab q => TabR mu H p q
structure HRel (W : Wd) (mu : Addr → Prop) (m : List Addr) (A : AH) (H : Hp) : Prop where
  len : m.length = A.length
  inj : ∀ (i j : Nat) (p : Addr), m[i]? = some p → m[j]? = some p → i = j
  obj : ∀ (i : Nat) (p : Addr) (o : AO), m[i]? = some p → A[i]? = some o → AoR W mu m H p o
  tb : ∀ (t : Nat) (P : Addr) (q : Str), W.tabs[t]? = some (P, q) → m[t]? = some P ∧ A[t]? = some (.tab q)
def SlR (W : Wd) (mu : Addr → Prop) (m : List Addr) (H : Hp) (o : Option Addr) (x : Option (Option V)) : Sl → Prop
  | .no => o = none
  | .clo => o = none ∧ ∃ f z0, W.cl = some (f, z0) ∧ x = some (some (.ref f))
  | .val d => o = none ∧ ∃ v, x = some (some v) ∧ Rep W mu m H d v
  | .own l => ∃ p vs, o = some p ∧ x = some (some (.ref p)) ∧ H p = some (.lst vs) ∧ Reps W mu m H l vs
  | .ownD l => ∃ p es, o = some p ∧ x = some (some (.ref p)) ∧ H p = some (DictO p es) ∧ KvOk l ∧ RepE W mu m H l es.1.toList
/-- from one state to a later one, by an expression -/
structure Sm (m : List Addr) (H : Hp) (m' : List Addr) (H' : Hp) : Prop where
  pre : m <+: m'
  keep : ∀ a o, H a = some o → a ∉ m → H' a = some o
  live : ∀ a o, H a = some o → ∃ o', H' a = some o'
  new : ∀ p, p ∈ m' → p ∉ m → H p = none
theorem Sm.refl (m H) : Sm m H m H := ⟨⟨[], by simp⟩, fun _ _ h _ => h, fun _ o h => ⟨o, h⟩, fun p h n => absurd h n⟩
theorem Sm.sub {m H m' H'} (s : Sm m H m' H') {p} (h : p ∈ m) : p ∈ m' := by
  obtain ⟨t, rfl⟩ := s.pre
  exact List.mem_append_left _ h
theorem Sm.trans {m1 H1 m2 H2 m3 H3} (a : Sm m1 H1 m2 H2) (b : Sm m2 H2 m3 H3) : Sm m1 H1 m3 H3 where
  pre := a.pre.trans b.pre
  keep := fun p o h n => by
    refine b.keep p o (a.keep p o h n) fun z => ?_
    have := a.new p z n
    rw [h] at this
    cases this
  live := fun p o h => by
    obtain ⟨o', h'⟩ := a.live p o h
    exact b.live p o' h'
  new := fun p h n => by
    by_cases q : p ∈ m2
    · exact a.new p q n
    · have e := b.new p h q
      cases e1 : H1 p with
      | none => rfl
      | some o =>
        obtain ⟨o', h'⟩ := a.live p o e1
        rw [e] at h'
        cases h'
theorem Sm.le {mu0 m H m' H' ow} (s : Sm m H m' H') : Le (muOf mu0 m ow) H (muOf mu0 m' ow) H' where
  keep := fun a o h n => s.keep a o h fun z => n (.inr (.inl z))
  stay := fun a o h n z => by
    rcases z with z | z | z
    · exact n (.inl z)
    · have := s.new a z fun q => n (.inr (.inl q))
      rw [h] at this
      cases this
    · exact n (.inr (.inr z))
/-- a new object is laid -/
theorem Sm.laid {m H p o} (h : H p = none) : Sm m H m (upd H p o) where
  pre := ⟨[], by simp⟩
  keep := fun a u e _ => by rw [upd_ne (ne_of_none e h)]; exact e
  live := fun a u e => ⟨u, by rw [upd_ne (ne_of_none e h)]; exact e⟩
  new := fun q hq n => absurd hq n

/-- the entry is the call's that gave the closure -/
def ClR (W : Wd) (z : En) : Prop := ∀ f z0, W.cl = some (f, z0) → z0.m = z.m ∧ z0.H = z.H ∧ ∀ p, z.mu p → z0.mu p ∨ z0.H p = none
structure SRel (W : Wd) (z : En) (m : List Addr) (ow : Ow) (ρ : Env) (A : AH) (σ : L2.St) (H : Hp) : Prop where
  len : σ.length = ρ.length
  own0 : ∀ i p, ow i = some p → z.H p = none
  ownm : ∀ i p, ow i = some p → p ∉ m
  omu : ∀ i p, ow i = some p → ¬ z.mu p
  inj : ∀ i j p, ow i = some p → ow j = some p → i = j
  out : ∀ i, ρ.length ≤ i → ow i = none
  sm : Sm z.m z.H m H
  ok : MuOk (muOf z.mu m ow) H
  slot : ∀ (i : Nat) (sl : Sl), ρ[i]? = some sl → SlR W (muOf z.mu m ow) m H (ow i) σ[i]? sl
  hp : HRel W (muOf z.mu m ow) m A H
  cl : ClR W z

section
variable {W : Wd} {z : En} {m m' : List Addr} {ow : Ow} {ρ : Env} {A A' : AH} {σ : L2.St} {H H' : Hp}
theorem AoR.mono {mu mu'} (l : Le mu H mu' H') (ok : MuOk mu H) (hm : m <+: m') {p o} (h : AoR W mu m H p o) (e : H' p = H p) : AoR W mu' m' H' p o := by
  cases o with
  | lst l' =>
    obtain ⟨vs, h1, h2⟩ := h
    exact ⟨vs, by rw [e]; exact h1, h2.mono l ok hm⟩
  | dct l' =>
    obtain ⟨es, h1, k, h2⟩ := h
    exact ⟨es, by rw [e]; exact h1, k, h2.mono l ok hm⟩
  | ins c fs => exact h.elim
  | tab q => exact TabR.mono (fun a o h n => ⟨l.keep a o h n, l.stay a o h n⟩) h e
theorem AoR.good {mu p o} (h : AoR W mu m H p o) : ∃ u, H p = some u ∧ (∀ xs, u ≠ .tup xs) ∧ (∀ ob v, u ≠ .frz ob v) := by
  cases o with
  | lst l' =>
    obtain ⟨vs, h1, h2⟩ := h
    exact ⟨_, h1, (fun _ z => by cases z), (fun _ _ z => by cases z)⟩
  | dct l' =>
    obtain ⟨es, h1, h2⟩ := h
    exact ⟨_, h1, fun _ z => DictO_ne_tup z, fun _ _ z => DictO_ne_frz z⟩
  | ins c fs => exact h.elim
  | tab q =>
    obtain ⟨ps, h1, _⟩ := h
    exact ⟨_, h1, (fun _ z => by cases z), (fun _ _ z => by cases z)⟩
theorem HRel.at (h : HRel W (muOf z.mu m ow) m A H) {p} (hp : p ∈ m) : ∃ (i : Nat) (o : AO), m[i]? = some p ∧ A[i]? = some o ∧ AoR W (muOf z.mu m ow) m H p o := by
  obtain ⟨i, hi⟩ := List.mem_iff_getElem?.mp hp
  have hl : i < A.length := by rw [← h.len]; exact (List.getElem?_eq_some_iff.mp hi).1
  exact ⟨i, A[i], hi, List.getElem?_eq_getElem hl, h.obj i p _ hi (List.getElem?_eq_getElem hl)⟩
theorem HRel.mono {mu mu'} (l : Le mu H mu' H') (ok : MuOk mu H) (h : HRel W mu m A H) (e : ∀ p ∈ m, H' p = H p) : HRel W mu' m A H' where
  len := h.len
  inj := h.inj
  obj := fun i p o h1 h2 => (h.obj i p o h1 h2).mono l ok ⟨[], by simp⟩ (e p (List.mem_of_getElem? h1))
  tb := h.tb
/-- the state behind an expression -/
theorem SRel.step (S : SRel W z m ow ρ A σ H) (s : Sm m H m' H') (h : HRel W (muOf z.mu m' ow) m' A' H') : SRel W z m' ow ρ A' σ H' where
  len := S.len
  own0 := S.own0
  ownm := fun i p e y => by
    by_cases q : p ∈ m
    · exact S.ownm i p e q
    · have := s.new p y q
      obtain ⟨o, h1, _⟩ := S.ok p (.inr (.inr ⟨i, e⟩))
      rw [this] at h1
      cases h1
  omu := S.omu
  inj := S.inj
  out := S.out
  sm := S.sm.trans s
  ok := fun p w => by
    by_cases q : p ∈ m'
    · obtain ⟨i, o, h1, h2, h3⟩ := h.at q
      exact h3.good
    · have nm : p ∉ m := fun y => q (s.sub y)
      have w' : muOf z.mu m ow p := by
        rcases w with w | w | w
        · exact .inl w
        · exact absurd w q
        · exact .inr (.inr w)
      obtain ⟨o, h1, h2⟩ := S.ok p w'
      exact ⟨o, s.keep p o h1 nm, h2⟩
  slot := fun i sl e => by
    have q := S.slot i sl e
    cases sl with
    | no => exact q
    | clo => exact q
    | val d =>
      obtain ⟨q1, v, q2, q3⟩ := q
      exact ⟨q1, v, q2, q3.mono s.le S.ok s.pre⟩
    | own l =>
      obtain ⟨p, vs, q1, q2, q3, q4⟩ := q
      exact ⟨p, vs, q1, q2, s.keep p _ q3 (S.ownm i p q1), q4.mono s.le S.ok s.pre⟩
    | ownD l =>
      obtain ⟨p, es, q1, q2, q3, k, q4⟩ := q
      exact ⟨p, es, q1, q2, s.keep p _ q3 (S.ownm i p q1), k, q4.mono s.le S.ok s.pre⟩
  hp := h
  cl := S.cl
/-- a new object is laid -/
theorem SRel.laid (S : SRel W z m ow ρ A σ H) {p o} (h : H p = none) : SRel W z m ow ρ A σ (upd H p o) :=
  S.step (Sm.laid h) (S.hp.mono (Sm.laid (m := m) h).le S.ok fun q hq => by
    obtain ⟨i, ob, h1, h2, h3⟩ := S.hp.at hq
    obtain ⟨u, h4, _⟩ := h3.good
    exact upd_ne (ne_of_none h4 h))
/-- .. and is no mutable one -/
theorem SRel.newmu (S : SRel W z m ow ρ A σ H) {p} (h : H p = none) : ¬ muOf z.mu m ow p := fun w => by
  obtain ⟨o, h1, _⟩ := S.ok p w
  rw [h] at h1
  cases h1
end

/-! ### what an expression's value is -/
def RepB (W : Wd) (mu : Addr → Prop) (m : List Addr) (H : Hp) (d : D) (v : V) : Prop :=
  Rep W mu m H d v ∨ (∃ l p vs, d = .lst l ∧ v = .ref p ∧ p ∉ m ∧ H p = some (.lst vs) ∧ Reps W mu m H l vs) ∨
    ∃ l p es, d = .dct l ∧ v = .ref p ∧ p ∉ m ∧ H p = some (DictO p es) ∧ KvOk l ∧ RepE W mu m H l es.1.toList
def RepU (W : Wd) (mu : Addr → Prop) (m : List Addr) (H : Hp) (d : D) (v : V) : Prop :=
  Rep W mu m H d v ∨ (∃ l p vs, d = .lst l ∧ v = .ref p ∧ H p = some (.lst vs) ∧ Reps W mu m H l vs) ∨
    ∃ l p es, d = .dct l ∧ v = .ref p ∧ H p = some (DictO p es) ∧ KvOk l ∧ RepE W mu m H l es.1.toList
theorem RepB.u {W mu m H d v} (h : RepB W mu m H d v) : RepU W mu m H d v := by
  rcases h with h | ⟨l, p, vs, a, b, _, c, d⟩ | ⟨l, p, es, a, b, _, c, d⟩
  · exact .inl h
  · exact .inr (.inl ⟨l, p, vs, a, b, c, d⟩)
  · exact .inr (.inr ⟨l, p, es, a, b, c, d⟩)
theorem RepB.mono {W z m ow ρ A σ H m' H' d v} (S : SRel W z m ow ρ A σ H) (s : Sm m H m' H') (h : RepB W (muOf z.mu m ow) m H d v) : RepB W (muOf z.mu m' ow) m' H' d v := by
  have nn : ∀ p o, H p = some o → p ∉ m → p ∉ m' := fun p o e n w => by
    have := s.new p w n
    rw [e] at this
    cases this
  rcases h with h | ⟨l, p, vs, a, b, n, c, d⟩ | ⟨l, p, es, a, b, n, c, d⟩
  · exact .inl (h.mono s.le S.ok s.pre)
  · exact .inr (.inl ⟨l, p, vs, a, b, nn p _ c n, s.keep p _ c n, d.mono s.le S.ok s.pre⟩)
  · exact .inr (.inr ⟨l, p, es, a, b, nn p _ c n, s.keep p _ c n, d.1, d.2.mono s.le S.ok s.pre⟩)
theorem RepB.der {W z m ow ρ A σ H d v} (S : SRel W z m ow ρ A σ H) (h : RepB W (muOf z.mu m ow) m H d v) : RepU W (muOf z.mu m ow) m H (deref A d) v := by
  rcases h with h | ⟨l, p, vs, rfl, b, n, c, d⟩ | ⟨l, p, es, rfl, b, n, c, d⟩
  · cases d with
    | ref i =>
      obtain ⟨p, e, hm⟩ := h
      have hl : i < A.length := by rw [← S.hp.len]; exact (List.getElem?_eq_some_iff.mp hm).1
      have ha := List.getElem?_eq_getElem hl
      have k := S.hp.obj i p _ hm ha
      unfold deref
      simp only [ha]
      generalize A[i] = o at k
      cases o with
      | lst l =>
        obtain ⟨vs, k1, k2⟩ := k
        exact .inr (.inl ⟨l, p, vs, rfl, e, k1, k2⟩)
      | dct l =>
        obtain ⟨es, k1, k2⟩ := k
        exact .inr (.inr ⟨l, p, es, rfl, e, k1, k2⟩)
      | ins c fs => exact k.elim
      | tab q => exact .inl ⟨p, e, hm⟩
    | _ => exact .inl h
  · exact .inr (.inl ⟨l, p, vs, rfl, b, c, d⟩)
  · exact .inr (.inr ⟨l, p, es, rfl, b, c, d⟩)
def RepX (b : Bool) (W : Wd) (mu : Addr → Prop) (m : List Addr) (H : Hp) (d : D) (v : V) : Prop := if b then RepB W mu m H d v else Rep W mu m H d v
theorem RepX.b {b W mu m H d v} (h : RepX b W mu m H d v) : RepB W mu m H d v := by
  cases b
  · exact .inl h
  · exact h
def FsR (W : Wd) (mu : Addr → Prop) (m : List Addr) (H : Hp) : List (Str × D) → List (Str × V) → Prop
  | [], vs => vs = []
  | (f, d) :: r, vs => ∃ v t, vs = (f, v) :: t ∧ Rep W mu m H d v ∧ FsR W mu m H r t
def ExR (W : Wd) (mu : Addr → Prop) (m : List Addr) (H : Hp) (x : Ex) (cls : Value) (dd : Option Addr) : Prop :=
  ∃ C, W.mg x.cls = some (.ref C) ∧ cls = .ref C ∧ ((x.fs = [] ∧ dd = none) ∨ ∃ d vs, dd = some d ∧ H d = some (.xd vs) ∧ FsR W mu m H x.fs vs)

abbrev Rp (α β : Type) := (Addr → Prop) → List Addr → Hp → α → β → Prop
/-- what must hold so that what f says comes to Q, Wx -/
def OutG {α β : Type} (W : Wd) (z : En) (Wx : WX) (rp : Rp α β) (m : List Addr) (ow : Ow) (ρ : Env) (σ : L2.St) (H : Hp) (Q : β → Hp → Prop) : R α → Prop
  | .ok d A' => ∀ m' H' v, Sm m H m' H' → SRel W z m' ow ρ A' σ H' → rp (muOf z.mu m' ow) m' H' d v → Q v H'
  | .exc x A' => ∀ m' H' cls dd, Sm m H m' H' → SRel W z m' ow ρ A' σ H' → ExR W (muOf z.mu m' ow) m' H' x cls dd → Wx cls dd σ H'
  | .stuck => False
def TG {α β : Type} (W : Wd) (z : En) (Wx : WX) (rp : Rp α β) (f : Env → M α) : L2.St → Hp → (β → Hp → Prop) → Prop := fun σ H Q =>
  ∃ m ow ρ A, SRel W z m ow ρ A σ H ∧ OutG W z Wx rp m ow ρ σ H Q (f ρ A)
abbrev OutE (W : Wd) (z : En) (Wx : WX) (b : Bool) (m : List Addr) (ow : Ow) (ρ : Env) (σ : L2.St) (H : Hp) (Q : VK) : R D → Prop := OutG W z Wx (RepX b W) m ow ρ σ H Q
abbrev TEv (W : Wd) (z : En) (Wx : WX) (b : Bool) (f : Env → M D) : TE := TG W z Wx (RepX b W) f
theorem pe_weak {X : Cx} {e : Expr} {t t' : TE} (h : PE X e t) (w : ∀ σ H Q, t' σ H Q → t σ H Q) : PE X e t' := ⟨fun pins s σ H Q I q => h.run pins s σ H Q I (w σ H Q q)⟩
theorem pt_weak {X : Cx} {e : Expr} {t t' : TT} (h : PT X e t) (w : ∀ σ H Q, t' σ H Q → t σ H Q) : PT X e t' := ⟨fun pins s σ H Q I q => h.run pins s σ H Q I (w σ H Q q)⟩
theorem pa_weak {X : Cx} {e : List Expr} {t t' : TA} (h : PA X e t) (w : ∀ σ H Q, t' σ H Q → t σ H Q) : PA X e t' := ⟨fun pos pins s σ H Q I q => h.run pos pins s σ H Q I (w σ H Q q)⟩

/-- the rule for a name -/
def CtxOk (X : Cx) (W : Wd) : Prop := X.K = W.K ∧ X.mg = W.mg ∧ X.w = W.w
abbrev GE (X : Cx) (W : Wd) (z : En) (Wx : WX) (b : Bool) (e : Expr) (f : Env → M D) : Prop := PE X e (TEv W z Wx b f)

section
variable {X : Cx} {W : Wd} {z : En} {Wx : WX}
theorem ge_b {e f} (h : GE X W z Wx false e f) : GE X W z Wx true e f := pe_weak h fun σ H Q ⟨m, ow, ρ, A, S, q⟩ => ⟨m, ow, ρ, A, S, by
  cases r : f ρ A with
  | ok d A' =>
    rw [r] at q
    exact fun m' H' v s S' rp => q m' H' v s S' rp.b
  | exc x A' =>
    rw [r] at q
    exact q
  | stuck =>
    rw [r] at q
    exact q⟩
theorem ge_of {e : Expr} {v : V} {d : D} {b : Bool} (h : PE X e (tC v)) (hd : ∀ mu m H, Rep W mu m H d v) : GE X W z Wx b e (fun _ => M.pure d) := pe_weak h fun σ H Q ⟨m, ow, ρ, A, S, q⟩ => by
  refine q m H v (Sm.refl m H) S ?_
  cases b
  · exact hd _ _ _
  · exact .inl (hd _ _ _)
theorem ge_loc {i : Nat} {x : Str} {pos : Pos} (h : PE X (.Name x pos) (tVar i)) : GE X W z Wx false (.Name x pos) (fun ρ => ofO (getV ρ i)) := pe_weak h fun σ H Q ⟨m, ow, ρ, A, S, q⟩ => by
  dsimp only [getV] at q
  cases e : ρ[i]? with
  | none => rw [e] at q; exact q.elim
  | some sl =>
    rw [e] at q
    have k := S.slot i sl e
    cases sl with
    | val d =>
      obtain ⟨_, v, k2, k3⟩ := k
      exact ⟨v, k2, q m H v (Sm.refl m H) S k3⟩
    | _ => exact q.elim
theorem ge_bor {i : Nat} {x : Str} {pos : Pos} (h : PE X (.Name x pos) (tVar i)) : GE X W z Wx true (.Name x pos) (fun ρ => ofO (getB ρ i)) := pe_weak h fun σ H Q ⟨m, ow, ρ, A, S, q⟩ => by
  dsimp only [getB] at q
  cases e : ρ[i]? with
  | none => rw [e] at q; exact q.elim
  | some sl =>
    rw [e] at q
    have k := S.slot i sl e
    cases sl with
    | no => exact q.elim
    | clo => exact q.elim
    | val d =>
      obtain ⟨_, v, k2, k3⟩ := k
      exact ⟨v, k2, q m H v (Sm.refl m H) S (.inl k3)⟩
    | own l =>
      obtain ⟨p, vs, k1, k2, k3, k4⟩ := k
      exact ⟨_, k2, q m H _ (Sm.refl m H) S (.inr (.inl ⟨l, p, vs, rfl, rfl, S.ownm i p k1, k3, k4⟩))⟩
    | ownD l =>
      obtain ⟨p, es, k1, k2, k3, k4⟩ := k
      exact ⟨_, k2, q m H _ (Sm.refl m H) S (.inr (.inr ⟨l, p, es, rfl, rfl, S.ownm i p k1, k3, k4⟩))⟩
end
end Ev
end
section
set_option maxHeartbeats 2000000
namespace Ev
open PySem PySem.Spec PyProof.Rows L2
open PySem.W (dataLt alike)

section
variable {X : Cx} {W : Wd} {z : En} {Wx : WX} {m m' : List Addr} {ow : Ow} {ρ : Env} {A A' : AH} {σ : L2.St} {H H' : Hp} {Q : VK} {bb : Bool}
theorem OutG.later {α β : Type} {rp : Rp α β} {Q : β → Hp → Prop} {r : R α} (h : OutG W z Wx rp m ow ρ σ H Q r) (s : Sm m H m' H') : OutG W z Wx rp m' ow ρ σ H' Q r := by
  cases r with
  | ok d A' => exact fun m2 H2 v s2 => h m2 H2 v (s.trans s2)
  | exc x A' => exact fun m2 H2 c dd s2 => h m2 H2 c dd (s.trans s2)
  | stuck => exact h
/-- an expression, then what is made of its value -/
theorem tg_then {α β γ δ : Type} {rp : Rp α β} {rp' : Rp γ δ} {fa : Env → M α} {k : α → M γ} {Q : δ → Hp → Prop} {P : β → Hp → Prop} (S : SRel W z m ow ρ A σ H) (h : OutG W z Wx rp' m ow ρ σ H Q ((fa ρ).bind k A))
    (hk : ∀ m' H' A' d v, Sm m H m' H' → SRel W z m' ow ρ A' σ H' → rp (muOf z.mu m' ow) m' H' d v → OutG W z Wx rp' m' ow ρ σ H' Q (k d A') → P v H') : TG W z Wx rp fa σ H P := by
  refine ⟨m, ow, ρ, A, S, ?_⟩
  unfold M.bind at h
  cases e : fa ρ A with
  | ok d A' =>
    rw [e] at h
    exact fun m' H' v s S' r => hk m' H' A' d v s S' r (OutG.later h s)
  | exc x A' =>
    rw [e] at h
    exact h
  | stuck =>
    rw [e] at h
    exact h.elim
theorem te_then {γ δ : Type} {rp' : Rp γ δ} {Q : δ → Hp → Prop} {fa : Env → M D} {k : D → M γ} {P : V → Hp → Prop} (S : SRel W z m ow ρ A σ H) (h : OutG W z Wx rp' m ow ρ σ H Q ((fa ρ).bind k A))
    (hk : ∀ m' H' A' d v, Sm m H m' H' → SRel W z m' ow ρ A' σ H' → RepB W (muOf z.mu m' ow) m' H' d v → OutG W z Wx rp' m' ow ρ σ H' Q (k d A') → P v H') : TEv W z Wx true fa σ H P := tg_then S h hk
theorem ofO_out {α β : Type} {rp : Rp α β} {Q : β → Hp → Prop} {o : Option α} (h : OutG W z Wx rp m ow ρ σ H Q (ofO o A)) : ∃ d, o = some d ∧ OutG W z Wx rp m ow ρ σ H Q (.ok d A) := by
  cases o with
  | none => exact h.elim
  | some d => exact ⟨d, rfl, h⟩
theorem ofOb {α γ β : Type} {rp : Rp γ β} {Q : β → Hp → Prop} {o : Option α} {k : α → M γ} (h : OutG W z Wx rp m ow ρ σ H Q ((ofO o).bind k A)) : ∃ d, o = some d ∧ OutG W z Wx rp m ow ρ σ H Q (k d A) := by
  cases o with
  | none => exact h.elim
  | some d => exact ⟨d, rfl, h⟩
theorem grdb {γ β : Type} {rp : Rp γ β} {Q : β → Hp → Prop} {c : Bool} {k : Unit → M γ} (h : OutG W z Wx rp m ow ρ σ H Q ((grd c).bind k A)) : c = true ∧ OutG W z Wx rp m ow ρ σ H Q (k () A) := by
  cases c with
  | false => exact h.elim
  | true => exact ⟨rfl, h⟩
theorem OutG.now {α β : Type} {rp : Rp α β} {Q : β → Hp → Prop} {d : α} {v : β} (S : SRel W z m ow ρ A σ H) (h : OutG W z Wx rp m ow ρ σ H Q (.ok d A)) (r : rp (muOf z.mu m ow) m H d v) : Q v H := h m H v (Sm.refl m H) S r
theorem repx {b d v mu} (h : Rep W mu m H d v) : RepX b W mu m H d v := by
  cases b
  · exact h
  · exact .inl h
/-- a flat answer -/
theorem OutG.flat {d v} (S : SRel W z m ow ρ A σ H) (h : OutE W z Wx bb m ow ρ σ H Q (.ok d A)) (r : Rep W (muOf z.mu m ow) m H d v) : Q v H := h m H v (Sm.refl m H) S (repx r)
/-- a new object -/
theorem OutG.laid {d p o} (S : SRel W z m ow ρ A σ H) (h : OutE W z Wx bb m ow ρ σ H Q (.ok d A)) (hp : H p = none) (r : Rep W (muOf z.mu m ow) m (upd H p o) d (.ref p)) : Q (.ref p) (upd H p o) :=
  h m _ _ (Sm.laid hp) (S.laid hp) (repx r)
theorem SRel.le_laid (S : SRel W z m ow ρ A σ H) {p o} (hp : H p = none) : Le (muOf z.mu m ow) H (muOf z.mu m ow) (upd H p o) := (Sm.laid (m := m) hp).le
theorem rep_tup (S : SRel W z m ow ρ A σ H) {p ds vs} {o : Obj} (hp : H p = none) (ho : o.dict = none) (r : Reps W (muOf z.mu m ow) m H ds vs) : Rep W (muOf z.mu m ow) m (upd H p (.frz o (.tup vs))) (.tup ds) (.ref p) :=
  ⟨p, vs, rfl, .inl ⟨o, upd_same, ho⟩, r.mono (S.le_laid hp) S.ok ⟨[], by simp⟩⟩
theorem rep_lst (S : SRel W z m ow ρ A σ H) {p ds vs} (hp : H p = none) (r : Reps W (muOf z.mu m ow) m H ds vs) : Rep W (muOf z.mu m ow) m (upd H p (.lst vs)) (.lst ds) (.ref p) :=
  ⟨p, vs, rfl, ⟨upd_same, S.newmu hp⟩, r.mono (S.le_laid hp) S.ok ⟨[], by simp⟩⟩
/-- a sequence, read -/
theorem RepU.seq {mu d v l} (h : RepU W mu m H d v) (e : seqOf d = some l) : ∃ p vs, v = .ref p ∧ (SqL W.K H p vs ∨ SqT W.K H p vs) ∧ Reps W mu m H l vs := by
  rcases h with h | ⟨l', p, vs, rfl, rfl, c, q⟩ | ⟨l', p, es, rfl, _⟩
  · cases d with
    | tup l' =>
      cases e
      obtain ⟨p, vs, a, b, c⟩ := h
      exact ⟨p, vs, a, .inr b.t, c⟩
    | lst l' =>
      cases e
      obtain ⟨p, vs, a, b, c⟩ := h
      exact ⟨p, vs, a, .inl b.sq, c⟩
    | flst l' =>
      cases e
      obtain ⟨p, vs, a, b, c⟩ := h
      exact ⟨p, vs, a, .inl b.sq, c⟩
    | _ => cases e
  · cases e
    exact ⟨p, vs, rfl, .inl (SqL.of c), q⟩
  · cases e
theorem RepU.list {mu l v} (h : RepU W mu m H (.lst l) v) : ∃ p vs, v = .ref p ∧ H p = some (.lst vs) ∧ Reps W mu m H l vs := by
  rcases h with ⟨p, vs, a, b, c⟩ | ⟨l', p, vs, e, rfl, c, q⟩ | ⟨l', p, es, e, _⟩
  · exact ⟨p, vs, a, b.1, c⟩
  · cases e
    exact ⟨p, vs, rfl, c, q⟩
  · cases e
theorem RepU.tuple {mu l v} (h : RepU W mu m H (.tup l) v) : ∃ p vs, v = .ref p ∧ SqD W.K H p vs ∧ Reps W mu m H l vs := by
  rcases h with ⟨p, vs, a, b, c⟩ | ⟨l', p, vs, e, rfl, c, q⟩ | ⟨l', p, es, e, _⟩
  · exact ⟨p, vs, a, b, c⟩
  · cases e
  · cases e
theorem RepU.int {mu i v} (h : RepU W mu m H (.int i) v) : v = .int i := by
  rcases h with h | ⟨l', p, vs, e, rfl, c, q⟩ | ⟨l', p, es, e, _⟩
  · exact h
  · cases e
  · cases e
theorem RepU.str {mu i v} (h : RepU W mu m H (.str i) v) : v = .str i := by
  rcases h with h | ⟨l', p, vs, e, rfl, c, q⟩ | ⟨l', p, es, e, _⟩
  · exact h
  · cases e
  · cases e
theorem RepU.bl {mu i v} (h : RepU W mu m H (.bl i) v) : v = .bl i := by
  rcases h with h | ⟨l', p, vs, e, rfl, c, q⟩ | ⟨l', p, es, e, _⟩
  · exact h
  · cases e
  · cases e
theorem RepU.non {mu v} (h : RepU W mu m H .non v) : v = .non := by
  rcases h with h | ⟨l', p, vs, e, rfl, c, q⟩ | ⟨l', p, es, e, _⟩
  · exact h
  · cases e
  · cases e

/-! ### two operands -/
/-- what a rule by values must serve -/
def Sv2 (W : Wd) (op : D → D → Option D) (r : R2) : Prop := ∀ {z : En} {Wx : WX} {m : List Addr} {ow : Ow} {ρ : Env} {A : AH} {σ : L2.St} {H : Hp} {Q : VK} {bb : Bool} {a b d : D} {x y : V},
  SRel W z m ow ρ A σ H → RepU W (muOf z.mu m ow) m H a x → RepU W (muOf z.mu m ow) m H b y → op a b = some d → OutE W z Wx bb m ow ρ σ H Q (.ok d A) → r x y H Q
theorem Sv2.tOp {op : D → D → Option D} {r : R2} (s : Sv2 W op r) {fa fb : Env → M D} {g : AH → D → D} (hg : g = (fun _ d => d) ∨ g = deref) :
    TEv W z Wx bb (fun ρ => (fa ρ).bind fun x => (fb ρ).bind fun y => fun A => ofO (op (g A x) y) A) σ H Q → tOp r (TEv W z Wx true fa) (TEv W z Wx true fb) σ H Q := fun ⟨m, ow, ρ, A, S, q⟩ => by
  refine te_then S q fun m1 H1 A1 a x s1 S1 r1 q1 => te_then S1 q1 fun m2 H2 A2 b y s2 S2 r2 q2 => ?_
  obtain ⟨d, e, q3⟩ := ofO_out q2
  refine s S2 ?_ r2.u e q3
  rcases hg with rfl | rfl
  · exact (r1.mono S1 s2).u
  · exact (r1.mono S1 s2).der S2
end
end Ev
end
section
set_option maxHeartbeats 2000000
namespace Ev
open PySem PySem.Spec PyProof.Rows L2
open PySem.W (dataLt alike)

section
variable {X : Cx} {W : Wd}
def rAddA (K : PySem.W.Frag) : R2 := fun x y H Q => (rI0 fun i j => .int (i + j)) x y H Q ∨ (∃ i j, x = .str i ∧ y = .str j ∧ i.length + j.length ≤ sizeLine ∧ Q (.str (i ++ j)) H) ∨ rCatN K x y H Q ∨ rCat x y H Q
theorem op_addA : OpR X (binaryOp .Add) (rAddA X.K) := op_add.or (op_add_str.or (op_catN.or op_cat))
theorem sv_add : Sv2 W addD (rAddA W.K) := by
  intro z Wx m ow ρ A σ H Q bb a b d x y S ra rb e q
  unfold addD at e
  split at e <;> try cases e
  · exact .inl ⟨_, _, ra.int, rb.int, q.flat S rfl⟩
  · split at e
    · cases e
      exact .inr (.inl ⟨_, _, ra.str, rb.str, by assumption, q.flat S rfl⟩)
    · cases e
  · rename_i x' y'
    split at e
    · rename_i hz
      cases e
      obtain ⟨p, vs, rfl, h1, h2⟩ := ra.tuple
      obtain ⟨p', vs', rfl, h3, h4⟩ := rb.tuple
      refine .inr (.inr (.inl ⟨p, p', vs, vs', rfl, rfl, h1.t, h3.t, by rw [← h2.length, ← h4.length]; exact hz, fun z => ?_, fun z z' => ?_, fun _ _ t o ht ho => ?_⟩))
      · subst z
        have e0 : x' = [] := List.eq_nil_of_length_eq_zero h2.length
        subst e0
        exact q.flat S ⟨p', vs', rfl, h3, h4⟩
      · subst z'
        have e0 : y' = [] := List.eq_nil_of_length_eq_zero h4.length
        subst e0
        rw [List.append_nil] at q
        exact q.flat S ⟨p, vs, rfl, h1, h2⟩
      · exact q.laid S ht (rep_tup S ht ho (h2.append h4))
    · cases e
  · split at e
    · rename_i hz
      cases e
      obtain ⟨p, vs, rfl, h1, h2⟩ := ra.list
      obtain ⟨p', vs', rfl, h3, h4⟩ := rb.list
      exact .inr (.inr (.inr ⟨p, p', vs, vs', rfl, rfl, h1, h3, by rw [← h2.length, ← h4.length]; exact hz, fun t ht => q.laid S ht (rep_lst S ht (h2.append h4))⟩))
    · cases e
theorem sv_sub : Sv2 W subD (rI0 fun i j => .int (i - j)) := by
  intro z Wx m ow ρ A σ H Q bb a b d x y S ra rb e q
  unfold subD at e
  split at e <;> try cases e
  exact ⟨_, _, ra.int, rb.int, q.flat S rfl⟩
theorem small_ok {i : Int} (h : small i = true) : -(2 ^ 64) < i ∧ i < 2 ^ 64 := by
  unfold small at h
  obtain ⟨a, b⟩ := Bool.and_eq_true_iff.mp h
  exact ⟨of_decide_eq_true a, of_decide_eq_true b⟩
def rMulA (K : PySem.W.Frag) : R2 := fun x y H Q => (rI CMul fun i j => .int (i * j)) x y H Q ∨ (rI CMulW fun i j => .int (i * j)) x y H Q ∨ rRep x y H Q
theorem op_mulA : OpR X (binaryOp .Mult) (rMulA X.K) := op_mul.or (op_mulW.or op_rep)
theorem reps_rep {mu m H} {ds : List D} {vs : List V} (r : Reps W mu m H ds vs) : ∀ k : Nat, Reps W mu m H (List.replicate k ds).flatten (List.replicate k vs).flatten
  | 0 => rfl
  | k + 1 => by
    simp only [List.replicate_succ, List.flatten_cons]
    exact r.append (reps_rep r k)
theorem sv_mul : Sv2 W mulD (rMulA W.K) := by
  intro z Wx m ow ρ A σ H Q bb a b d x y S ra rb e q
  unfold mulD at e
  split at e <;> try cases e
  · split at e
    · rename_i i j h
      cases e
      rw [Bool.or_eq_true, Bool.or_eq_true] at h
      rcases h with (h | h) | h
      · exact .inl ⟨_, _, ra.int, rb.int, .inl (small_ok h), q.flat S rfl⟩
      · exact .inl ⟨_, _, ra.int, rb.int, .inr (small_ok h), q.flat S rfl⟩
      · have h' : i.natAbs.log2 + j.natAbs.log2 < 1000000 := of_decide_eq_true h
        exact .inr (.inl ⟨_, _, ra.int, rb.int, h', q.flat S rfl⟩)
    · cases e
  · split at e
    · rename_i l k h
      cases e
      obtain ⟨p, vs, rfl, h1, h2⟩ := ra.list
      simp only [Bool.and_eq_true, decide_eq_true_eq] at h
      obtain ⟨⟨c1, c2⟩, c3⟩ := h
      exact .inr (.inr (⟨p, k, vs, rfl, rb.int, h1, by omega, by omega, by rw [← h2.length]; exact c3, fun t ht => q.laid S ht (rep_lst S ht (reps_rep h2 _))⟩))
    · cases e
theorem sv_div : Sv2 W divD (rI CDivW fun i j => .int (i / j)) := by
  intro z Wx m ow ρ A σ H Q bb a b d x y S ra rb e q
  unfold divD at e
  split at e <;> try cases e
  split at e
  · rename_i h
    cases e
    obtain ⟨a, b⟩ := Bool.and_eq_true_iff.mp h
    exact ⟨_, _, ra.int, rb.int, ⟨of_decide_eq_true a, of_decide_eq_true b⟩, q.flat S rfl⟩
  · cases e
theorem sv_mod : Sv2 W modD (rI (fun _ j => 0 < j) fun i j => .int (i % j)) := by
  intro z Wx m ow ρ A σ H Q bb a b d x y S ra rb e q
  unfold modD at e
  split at e <;> try cases e
  split at e
  · cases e
    exact ⟨_, _, ra.int, rb.int, by assumption, q.flat S rfl⟩
  · cases e
theorem sv_pow : Sv2 W powD (rI CPow fun i j => .int (i ^ j.toNat)) := by
  intro z Wx m ow ρ A σ H Q bb a b d x y S ra rb e q
  unfold powD at e
  split at e <;> try cases e
  split at e
  · rename_i h
    cases e
    simp only [Bool.and_eq_true, decide_eq_true_eq] at h
    exact ⟨_, _, ra.int, rb.int, ⟨h.1.1, h.1.2, h.2⟩, q.flat S rfl⟩
  · cases e
/-- a binary operation -/
theorem ge_bin {z Wx bb} {op : Operator} {a b : Expr} {fa fb : Env → M D} {pos : Pos} (c : CtxOk X W) (hop : op = .Add ∨ op = .Sub ∨ op = .Mult ∨ op = .FloorDiv ∨ op = .Mod ∨ op = .Pow)
    (ha : GE X W z Wx true a fa) (hb : GE X W z Wx true b fb) : GE X W z Wx bb (.BinOp a op b pos) (fun ρ => (fa ρ).bind fun x => (fb ρ).bind fun y => ofO (binD op x y)) := by
  rcases hop with rfl | rfl | rfl | rfl | rfl | rfl
  · refine pe_weak (pe_op op_addA ha hb) fun σ H Q q => ?_
    rw [c.1]
    exact sv_add.tOp (.inl rfl) q
  · exact pe_weak (pe_op op_sub ha hb) fun σ H Q q => sv_sub.tOp (.inl rfl) q
  · refine pe_weak (pe_op op_mulA ha hb) fun σ H Q q => ?_
    rw [c.1]
    exact sv_mul.tOp (.inl rfl) q
  · exact pe_weak (pe_op op_fdivW ha hb) fun σ H Q q => sv_div.tOp (.inl rfl) q
  · exact pe_weak (pe_op op_mod ha hb) fun σ H Q q => sv_mod.tOp (.inl rfl) q
  · exact pe_weak (pe_op op_pow ha hb) fun σ H Q q => sv_pow.tOp (.inl rfl) q
end
end Ev
end
section
set_option maxHeartbeats 2000000
namespace Ev
open PySem PySem.Spec PyProof.Rows L2
open PySem.W (dataLt alike)

section
variable {W : Wd} {mu : Addr → Prop} {m : List Addr} {H : Hp}
mutual
theorem Rep.dp : ∀ {d : D} {v : V}, d.py.canLay0 = true → Rep W mu m H d v → Dp W.K H v d.py
  | .non, _, _, h => by cases h; exact .non
  | .bl _, _, _, h => by cases h; exact .bl _
  | .int _, _, _, h => by cases h; exact .int _
  | .str _, _, _, h => by cases h; exact .str _
  | .tup ds, _, c, h => by
    obtain ⟨p, vs, rfl, s, r⟩ := h
    exact .tup s.t (Reps.dp c r)
  | .lst ds, _, c, h => by
    obtain ⟨p, vs, rfl, s, r⟩ := h
    exact .lst s.sq (Reps.dp c r)
  | .flst ds, _, c, h => by cases c
  | .dct ds, _, c, h => by cases c
  | .ref ds, _, c, h => by cases c
  | .fn ds, _, c, h => by cases c
theorem Reps.dp : ∀ {ds : List D} {vs : List V}, PyData.canLayAll0 (D.pys ds) = true → Reps W mu m H ds vs → DpAll W.K H vs (D.pys ds)
  | [], _, _, h => by cases h; exact .nil
  | d :: ds, _, c, h => by
    obtain ⟨v, r, rfl, h1, h2⟩ := h
    have c' : (PyData.canLay0 d.py && PyData.canLayAll0 (D.pys ds)) = true := c
    obtain ⟨c1, c2⟩ := Bool.and_eq_true_iff.mp c'
    exact .cons (Rep.dp c1 h1) (Reps.dp c2 h2)
end
theorem RepU.dp {d v} (c : d.py.canLay0 = true) (h : RepU W mu m H d v) : Dp W.K H v d.py := by
  rcases h with h | ⟨l, p, vs, rfl, rfl, s, r⟩ | ⟨l, p, es, rfl, _⟩
  · exact h.dp c
  · exact .lst (SqL.of s) (Reps.dp c r)
  · cases c
theorem ok_lay {d : D} (h : d.ok = true) : d.py.canLay0 = true := (Bool.and_eq_true_iff.mp h).1
theorem ok_dep {d : D} (h : d.ok = true) : d.py.depth ≤ 60 := of_decide_eq_true (Bool.and_eq_true_iff.mp h).2
theorem ok_shaped {d : D} (h : d.ok = true) : SeqAt.shaped d.py = true := by
  unfold SeqAt.shaped
  rw [ok_lay h, Bool.true_and]
  have := ok_dep h
  exact decide_eq_true (by omega)
theorem all_lay : ∀ {l : List D}, l.all D.ok = true → PyData.canLayAll0 (D.pys l) = true ∧ PyData.depthAll (D.pys l) ≤ 60
  | [], _ => ⟨rfl, Nat.zero_le _⟩
  | d :: r, h => by
    rw [List.all_cons, Bool.and_eq_true] at h
    obtain ⟨a, b⟩ := all_lay h.2
    refine ⟨?_, ?_⟩
    · show (PyData.canLay0 d.py && PyData.canLayAll0 (D.pys r)) = true
      rw [ok_lay h.1, a]; rfl
    · show max (PyData.depth d.py) (PyData.depthAll (D.pys r)) ≤ 60
      exact Nat.max_le.mpr ⟨ok_dep h.1, b⟩
theorem RepU.isNon {d v} (h : RepU W mu m H d v) : decide (v = V.non) = d.isNon := by
  rcases h with h | ⟨l, p, vs, rfl, rfl, s, r⟩ | ⟨l, p, es, rfl, rfl, _⟩
  · cases d with
    | non => cases h; rfl
    | bl _ => cases h; rfl
    | int _ => cases h; rfl
    | str _ => cases h; rfl
    | tup _ => obtain ⟨p, vs, rfl, _⟩ := h; rfl
    | lst _ => obtain ⟨p, vs, rfl, _⟩ := h; rfl
    | flst _ => obtain ⟨p, vs, rfl, _⟩ := h; rfl
    | dct _ => obtain ⟨p, vs, rfl, _⟩ := h; rfl
    | ref _ => obtain ⟨p, rfl, _⟩ := h; rfl
    | fn _ => obtain ⟨p, rfl, _⟩ := h; rfl
  · rfl
  · rfl
theorem pys_map : ∀ l : List D, D.pys l = l.map D.py
  | [] => rfl
  | d :: r => by rw [List.map_cons, ← pys_map r]; rfl
end

/-- a comparison, by deep values -/
def rC (K : PySem.W.Frag) (op : CmpOp) : R2 := fun x y H Q => ∃ (W : Wd) (mu : Addr → Prop) (m : List Addr) (a b : D) (c : Bool), W.K = K ∧ RepU W mu m H a x ∧ RepU W mu m H b y ∧ cmpD op a b = some c ∧ Q (.bl c) H
def lessOp : CmpOp → Bool
  | .Lt | .LtE | .Gt | .GtE => true
  | _ => false
section
variable {X : Cx}
theorem op_cEq (hu : X.A.units + 66 < cLine) : OpR X (compareOp .Eq) (rC X.K .Eq) := by
  intro pins s σ H x y v u Q I rx ry ⟨W, mu, m, a, b, c, e, ra, rb, hc, q⟩
  have hc : (if (a.ok && b.ok) = true then some (eqD a b) else none) = some c := hc
  split at hc
  · rename_i h
    cases hc
    obtain ⟨h1, h2⟩ := Bool.and_eq_true_iff.mp h
    exact op_eqD (by omega) pins s σ H x y v u Q I rx ry ⟨a.py, b.py, by rw [← e]; exact ra.dp (ok_lay h1), by rw [← e]; exact rb.dp (ok_lay h2), ok_shaped h1, ok_shaped h2, q⟩
  · cases hc
theorem op_cNe (hu : X.A.units + 66 < cLine) : OpR X (compareOp .NotEq) (rC X.K .NotEq) := by
  intro pins s σ H x y v u Q I rx ry ⟨W, mu, m, a, b, c, e, ra, rb, hc, q⟩
  have hc : (if (a.ok && b.ok) = true then some (!eqD a b) else none) = some c := hc
  split at hc
  · rename_i h
    cases hc
    obtain ⟨h1, h2⟩ := Bool.and_eq_true_iff.mp h
    exact op_neD (by omega) pins s σ H x y v u Q I rx ry ⟨a.py, b.py, by rw [← e]; exact ra.dp (ok_lay h1), by rw [← e]; exact rb.dp (ok_lay h2), ok_shaped h1, ok_shaped h2, q⟩
  · cases hc
theorem nonP {d : D} (h : (!d.isNon) = true) (k : d.py.canLay0 = true) : d.py ≠ .none := by
  cases d with
  | non => cases h
  | _ => intro z; cases z
theorem four {a b c d : Bool} (h : (a && b && c && d) = true) : a = true ∧ b = true ∧ c = true ∧ d = true := by
  simp only [Bool.and_eq_true] at h
  exact ⟨h.1.1.1, h.1.1.2, h.1.2, h.2⟩
theorem op_cLess (hu : X.A.units + 66 < cLine) {op : CmpOp} (ho : lessOp op = true) : OpR X (compareOp op) (rC X.K op) := by
  intro pins s σ H x y v u Q I rx ry ⟨W, mu, m, a, b, c, e, ra, rb, hc, q⟩
  have key : ∀ k : Bool, (if (a.ok && b.ok && alikeD a b && !a.isNon) = true then some k else none) = some c → k = c ∧ ∃ as bs, Reads s.heap v a.py as ∧ Reads s.heap u b.py bs ∧ alike a.py b.py = true ∧ a.py ≠ .none ∧ X.A.units + min a.py.depth b.py.depth < cLine := by
    intro k hk
    split at hk
    · rename_i h
      cases hk
      obtain ⟨h1, h2, h3, h4⟩ := four h
      obtain ⟨as, q1⟩ := Dp.reads I a.py x v (by rw [← e]; exact ra.dp (ok_lay h1)) rx
      obtain ⟨bs, q2⟩ := Dp.reads I b.py y u (by rw [← e]; exact rb.dp (ok_lay h2)) ry
      refine ⟨rfl, as, bs, q1, q2, h3, nonP h4 (ok_lay h1), ?_⟩
      have := ok_dep h1
      omega
    · cases hk
  have fin : EP X pins σ Q (.bool c) s := ⟨.bl c, H, I, rfl, q⟩
  cases op <;> first | cases ho | skip
  · obtain ⟨rfl, as, bs, q1, q2, q3, q4, q5⟩ := key _ hc
    exact PySem.W.lt_data q1 q2 q3 q4 q5 fin
  · obtain ⟨rfl, as, bs, q1, q2, q3, q4, q5⟩ := key _ hc
    exact PySem.W.le_data q1 q2 q3 q4 q5 fin
  · obtain ⟨rfl, as, bs, q1, q2, q3, q4, q5⟩ := key _ hc
    exact PySem.W.gt_data q1 q2 q3 q4 q5 fin
  · obtain ⟨rfl, as, bs, q1, q2, q3, q4, q5⟩ := key _ hc
    exact PySem.W.ge_data q1 q2 q3 q4 q5 fin
theorem op_cIs : OpR X (compareOp .Is) (rC X.K .Is) := by
  intro pins s σ H x y v u Q I rx ry ⟨W, mu, m, a, b, c, e, ra, rb, hc, q⟩
  have hc : isD a b = some c := hc
  unfold isD at hc
  split at hc
  · cases hc
    exact op_isN pins s σ H x y v u Q I rx ry ⟨rb.non, by rw [ra.isNon]; exact q⟩
  · cases hc
    exact op_isBl pins s σ H x y v u Q I rx ry ⟨_, _, ra.bl, rb.bl, q⟩
  · cases hc
theorem op_cIsNot : OpR X (compareOp .IsNot) (rC X.K .IsNot) := by
  intro pins s σ H x y v u Q I rx ry ⟨W, mu, m, a, b, c, e, ra, rb, hc, q⟩
  have hc : (isD a b).map (!·) = some c := hc
  unfold isD at hc
  split at hc
  · cases hc
    exact op_notN pins s σ H x y v u Q I rx ry ⟨rb.non, by rw [ra.isNon]; exact q⟩
  · cases hc
    exact op_notBl pins s σ H x y v u Q I rx ry ⟨_, _, ra.bl, rb.bl, q⟩
  · cases hc
/-- x in a sequence -/
theorem in_seq (hu : X.A.units + 66 < cLine) {W : Wd} (eK : W.K = X.K) {mu m} {pins : List (Addr × Obj)} {s : Shared} {σ : L2.St} {H : Hp} {a b : D} {l : List D} {x y : V} {v u : Value} {Q : Value → Shared → Prop} {neg : Bool} (I : Inv X pins σ H s) (rx : RelV x v) (ry : RelV y u)
    (ra : RepU W mu m H a x) (rb : RepU W mu m H b y) (hl : b = .tup l ∨ b = .lst l) (h1 : a.ok = true) (h2 : l.all D.ok = true) (q : Q (.bool (if neg then !(l.any fun z => eqD z a) else l.any fun z => eqD z a)) s) :
    wpAny (model X.prog X.w) X.A (compareOp (if neg then .NotIn else .In) v u) Q X.xe s := by
  obtain ⟨c1, c2⟩ := all_lay h2
  obtain ⟨as, q1⟩ := Dp.reads I a.py x v (by rw [← eK]; exact ra.dp (ok_lay h1)) rx
  have hroom : X.A.units + 1 + min (PyData.depthAll (D.pys l)) a.py.depth < cLine := by omega
  have hany : (l.any fun z => eqD z a) = (D.pys l).any fun z => PyData.eqv z a.py := by
    rw [pys_map, List.any_map]
    rfl
  rw [hany] at q
  rcases hl with rfl | rfl
  · obtain ⟨bs, q2⟩ := Dp.reads I _ y u (by rw [← eK]; exact rb.dp (d := .tup l) c1) ry
    cases neg
    · exact SeqAt.in_tuple_reads q2 q1 c1 (ok_lay h1) hroom q
    · exact SeqAt.notIn_tuple_reads q2 q1 c1 (ok_lay h1) hroom q
  · obtain ⟨bs, q2⟩ := Dp.reads I _ y u (by rw [← eK]; exact rb.dp (d := .lst l) c1) ry
    cases neg
    · exact SeqAt.in_list_reads q2 q1 c1 (ok_lay h1) hroom q
    · exact SeqAt.notIn_list_reads q2 q1 c1 (ok_lay h1) hroom q
end
end Ev
end
section
set_option maxHeartbeats 2000000
namespace Ev
open PySem PySem.Spec PyProof.Rows L2
open PySem.W (dataLt alike)

/-! ### keys -/
section
variable {W : Wd} {mu : Addr → Prop} {m : List Addr} {H : Hp}
mutual
theorem Rep.nested {X : Cx} {pins : List (Addr × Obj)} {σ : L2.St} {s : Shared} (I : Inv X pins σ H s) (eK : W.K = X.K) : ∀ {d : D} {v : V} {u : Value}, d.isK = true → Rep W mu m H d v → RelV v u → NestedIs s.heap d.nk u
  | .int i, _, _, _, h, r => by cases h; obtain ⟨t, rfl⟩ := r; exact .int i t
  | .str x, _, _, _, h, r => by cases h; obtain ⟨t, rfl⟩ := r; exact .text x t
  | .tup ds, _, _, c, h, r => by
    obtain ⟨p, vs, rfl, sq, rs⟩ := h
    cases r
    have sq := sq.t
    rw [eK] at sq
    obtain ⟨its, rv, ⟨o, h1, h2, n, h3⟩, _⟩ := I.tuple sq
    exact .tup h1 h2 h3 (Reps.nested I eK c rs rv)
  | .non, _, _, c, _, _ => by cases c
  | .bl _, _, _, c, _, _ => by cases c
  | .lst _, _, _, c, _, _ => by cases c
  | .flst _, _, _, c, _, _ => by cases c
  | .dct _, _, _, c, _, _ => by cases c
  | .ref _, _, _, c, _, _ => by cases c
  | .fn _, _, _, c, _, _ => by cases c
theorem Reps.nested {X : Cx} {pins : List (Addr × Obj)} {σ : L2.St} {s : Shared} (I : Inv X pins σ H s) (eK : W.K = X.K) : ∀ {ds : List D} {vs : List V} {us : List Value}, D.isKs ds = true → Reps W mu m H ds vs → Vals vs us → NestedAll s.heap (D.nks ds) us
  | [], _, _, _, h, r => by cases h; cases r; exact .nil
  | d :: ds, _, _, c, h, r => by
    obtain ⟨v, t, rfl, h1, h2⟩ := h
    cases r with
    | cons r1 r2 =>
      have c' : (d.isK && D.isKs ds) = true := c
      obtain ⟨c1, c2⟩ := Bool.and_eq_true_iff.mp c'
      exact .cons (Rep.nested I eK c1 h1 r1) (Reps.nested I eK c2 h2 r2)
end
end
end Ev
namespace Ev
open PySem PySem.Spec PyProof.Rows L2
def D.fk : D → Key
  | .int i => .inl i
  | .str x => .inr x
  | _ => .inl 0
def keyNk : Key → NestedKey
  | .inl i => .num i
  | .inr x => .text x
theorem keyNk_inj {a b : Key} (h : keyNk a = keyNk b) : a = b := by
  cases a <;> cases b <;> cases h <;> rfl
theorem fk_nk {d : D} (h : d.isK = true) (t : d.isT = false) : keyNk d.fk = d.nk := by
  cases d <;> first | rfl | cases h | cases t
section
variable (W : Wd) (mu : Addr → Prop) (m : List Addr) (H : Hp)
/-- pairs whose keys are tuples, with the tuples' addresses -/
def PX : List (D × D) → List (NestedKey × Addr × Value) → Prop
  | [], xs => xs = []
  | (k, d) :: r, xs => ∃ a v t, xs = (k.nk, a, v) :: t ∧ Rep W mu m H k (.ref a) ∧ (∃ y, RelV y v ∧ Rep W mu m H d y) ∧ PX r t
/-- pairs whose keys are flat -/
def PF : List (D × D) → List (Key × Value) → Prop
  | [], xs => xs = []
  | (k, d) :: r, xs => ∃ v t, xs = (k.fk, v) :: t ∧ (∃ y, RelV y v ∧ Rep W mu m H d y) ∧ PF r t
end
section
variable {W : Wd} {mu : Addr → Prop} {m : List Addr} {H : Hp} {P : Program}
theorem px_of : ∀ {kvs : List (D × D)} {es : List DictEntry}, (∀ p ∈ kvs, p.1.isT = true) → RepE W mu m H kvs es → ∃ xs, es = xs.map (entryOfKey (nestedKind P W.w)) ∧ PX W mu m H kvs xs
  | [], _, _, h => by cases h; exact ⟨[], rfl, rfl⟩
  | (k, d) :: r, es, t, h => by
    obtain ⟨e, er, x, y, rfl, h1, h2, h3, h4, h5, h6⟩ := h
    obtain ⟨xs, rfl, px⟩ := px_of (fun p hp => t p (List.mem_cons_of_mem _ hp)) h6
    have tk := t (k, d) List.mem_cons_self
    cases k with
    | tup l =>
      obtain ⟨p, vs, rfl, s, rs⟩ := h2
      obtain ⟨eh, ek, ev⟩ := e
      have ek' : ek = Value.ref p := h1
      subst ek'
      refine ⟨((D.tup l).nk, p, ev) :: xs, ?_, p, ev, xs, rfl, ⟨p, vs, rfl, s, rs⟩, ⟨y, h4, h5⟩, px⟩
      have h3' : eh = (D.tup l).nk.hash W.w := h3
      subst h3'
      rfl
    | _ => cases tk
theorem of_px : ∀ {kvs : List (D × D)} {xs : List (NestedKey × Addr × Value)}, PX W mu m H kvs xs → RepE W mu m H kvs (xs.map (entryOfKey (nestedKind P W.w)))
  | [], _, h => by cases h; rfl
  | (k, d) :: r, _, h => by
    obtain ⟨a, v, t, rfl, h1, ⟨y, h2, h3⟩, h4⟩ := h
    exact ⟨_, _, .ref a, y, rfl, rfl, h1, rfl, h2, h3, of_px h4⟩
theorem PX.keys : ∀ {kvs : List (D × D)} {xs : List (NestedKey × Addr × Value)}, PX W mu m H kvs xs → xs.map (·.1) = kvs.map fun p => p.1.nk
  | [], _, h => by cases h; rfl
  | (k, d) :: r, _, h => by
    obtain ⟨a, v, t, rfl, h1, h2, h4⟩ := h
    simp [PX.keys h4]
theorem PX.length {kvs xs} (h : PX W mu m H kvs xs) : xs.length = kvs.length := by
  have := congrArg List.length h.keys
  simpa using this
theorem PX.mem : ∀ {kvs : List (D × D)} {xs : List (NestedKey × Addr × Value)}, PX W mu m H kvs xs → ∀ x ∈ xs, ∃ p ∈ kvs, x.1 = p.1.nk ∧ Rep W mu m H p.1 (.ref x.2.1)
  | [], _, h, x, hx => by cases h; cases hx
  | (k, d) :: r, _, h, x, hx => by
    obtain ⟨a, v, t, rfl, h1, h2, h4⟩ := h
    rcases List.mem_cons.mp hx with rfl | hx
    · exact ⟨_, List.mem_cons_self, rfl, h1⟩
    · obtain ⟨p, hp, q⟩ := PX.mem h4 x hx
      exact ⟨p, List.mem_cons_of_mem _ hp, q⟩
theorem PX.find : ∀ {kvs : List (D × D)} {xs : List (NestedKey × Addr × Value)} (k : D), PX W mu m H kvs xs →
    (∀ d, findK k kvs = some d → ∃ p, atKey xs k.nk = some p ∧ ∃ y, RelV y p.2 ∧ Rep W mu m H d y) ∧ (findK k kvs = none → atKey xs k.nk = none)
  | [], _, k, h => by
    cases h
    exact ⟨(fun d e => by cases e), fun _ => rfl⟩
  | (a, d) :: r, _, k, h => by
    obtain ⟨b, v, t, rfl, h1, h2, h4⟩ := h
    have ih := PX.find k h4
    have e1 : atKey ((a.nk, b, v) :: t) k.nk = if a.nk = k.nk then some (b, v) else atKey t k.nk := by
      unfold atKey
      rw [List.find?_cons]
      by_cases q : a.nk = k.nk
      · simp [q]
      · simp [q]
    rw [e1]
    unfold findK D.same
    rw [← NestedKey.decide_eq]
    by_cases q : a.nk = k.nk
    · simp only [q, decide_true, if_true]
      exact ⟨(fun d' e => by cases e; exact ⟨_, rfl, h2⟩), (fun e => by cases e)⟩
    · simp only [q, decide_false, if_false, Bool.false_eq_true]
      exact ih
theorem putK_new {k v : D} : ∀ {kvs : List (D × D)}, findK k kvs = none → putK k v kvs = kvs ++ [(k, v)]
  | [], _ => rfl
  | (a, u) :: r, h => by
    unfold findK at h
    unfold putK
    split at h
    · cases h
    · rename_i q
      rw [if_neg q, putK_new h]
      rfl
theorem PX.put : ∀ {kvs : List (D × D)} {xs : List (NestedKey × Addr × Value)} {k d : D} {b : Addr} {v : Value} {y : V}, PX W mu m H kvs xs → (xs.map (·.1)).Nodup → Rep W mu m H k (.ref b) → RelV y v → Rep W mu m H d y →
    PX W mu m H (putK k d kvs) (storedH xs k.nk b v) := by
  intro kvs xs k d b v y h nd rk rv rd
  obtain ⟨f1, f2⟩ := PX.find k h
  cases e : findK k kvs with
  | none =>
    rw [storedH_new (f2 e), putK_new e]
    clear f1 f2 e nd
    induction kvs generalizing xs with
    | nil => cases h; exact ⟨b, v, [], rfl, rk, ⟨y, rv, rd⟩, rfl⟩
    | cons q r ih =>
      obtain ⟨a, d'⟩ := q
      obtain ⟨b', v', t, rfl, h1, h2, h4⟩ := h
      exact ⟨b', v', _, rfl, h1, h2, ih h4⟩
  | some d0 =>
    obtain ⟨p, hp, _⟩ := f1 d0 e
    rw [storedH_old hp]
    clear f1 f2 hp
    induction kvs generalizing xs with
    | nil => cases e
    | cons q r ih =>
      obtain ⟨a, d'⟩ := q
      obtain ⟨b', v', t, rfl, h1, h2, h4⟩ := h
      unfold findK at e
      unfold putK
      rw [List.map_cons] at nd ⊢
      have nd' := List.nodup_cons.mp nd
      by_cases z : D.same a k = true
      · rw [if_pos z]
        have ez : a.nk = k.nk := NestedKey.eq_of_beq _ _ z
        have hn : k.nk ∉ t.map (·.1) := by rw [← ez]; exact nd'.1
        rw [map_putAt_of_not_mem t k.nk v hn]
        have : putAt k.nk v (a.nk, b', v') = (a.nk, b', v) := by unfold putAt; rw [if_pos ez]
        rw [this]
        exact ⟨b', v, t, rfl, h1, ⟨y, rv, rd⟩, h4⟩
      · rw [if_neg z] at e ⊢
        have ez : ¬ a.nk = k.nk := fun w => z (by unfold D.same; rw [w]; exact NestedKey.beq_self _)
        have : putAt k.nk v (a.nk, b', v') = (a.nk, b', v') := by unfold putAt; rw [if_neg ez]
        rw [this]
        exact ⟨b', v', _, rfl, h1, h2, ih h4 nd'.2 e⟩
end
end Ev
end
section
set_option maxHeartbeats 2000000
namespace Ev
open PySem PySem.Spec PyProof.Rows L2
section
variable {W : Wd} {mu : Addr → Prop} {m : List Addr} {H : Hp} {P : Program}
theorem flat_is {k : D} {x : V} {u : Value} (hk : k.isK = true) (ht : k.isT = false) (r : Rep W mu m H k x) (ru : RelV x u) : keyIs k.fk u = true := by
  cases k <;> first | cases hk | cases ht | skip
  · cases r
    obtain ⟨t, rfl⟩ := ru
    exact keyIs_int _ t
  · cases r
    obtain ⟨t, rfl⟩ := ru
    exact keyIs_str _ t
theorem flat_hash {k : D} (hk : k.isK = true) (ht : k.isT = false) (w : World) : keyH w k.fk = k.nk.hash w := by
  cases k with
  | int i => simp only [D.fk, D.nk, keyH, NestedKey.hash]
  | str i => simp only [D.fk, D.nk, keyH, NestedKey.hash]
  | tup l => cases ht
  | _ => cases hk
/-- what is flat and is the key: its value -/
theorem flat_rep {k : D} {u : Value} (hk : k.isK = true) (ht : k.isT = false) (h : keyIs k.fk u = true) : ∃ x, RelV x u ∧ Rep W mu m H k x := by
  cases k <;> first | cases hk | cases ht | skip
  · rename_i i
    obtain ⟨t, rfl⟩ := Value.isInt_shape (k := i) (v := u) h
    exact ⟨.int i, ⟨t, rfl⟩, rfl⟩
  · rename_i x
    obtain ⟨t, rfl⟩ := Value.isStrOf_shape (x := x) (v := u) h
    exact ⟨.str x, ⟨t, rfl⟩, rfl⟩
theorem key_isK {k : D} (h : k.key = true) : k.isK = true := (Bool.and_eq_true_iff.mp h).1
theorem key_dep {k : D} (h : k.key = true) : k.nk.depth ≤ 8 := of_decide_eq_true (Bool.and_eq_true_iff.mp h).2
theorem pf_of : ∀ {kvs : List (D × D)} {es : List DictEntry}, (∀ p ∈ kvs, p.1.key = true) → (∀ p ∈ kvs, p.1.isT = false) → RepE W mu m H kvs es →
    ∃ xs, Pairs (mixKind P W.w) es xs ∧ (∀ e ∈ es, ∃ k, (mixKind P W.w).is k e.key = true ∧ e.hash = (mixKind P W.w).hash k) ∧ PF W mu m H kvs xs
  | [], _, _, _, h => by cases h; exact ⟨[], .nil, (fun e he => by cases he), rfl⟩
  | (k, d) :: r, es, c, t, h => by
    obtain ⟨e, er, x, y, rfl, h1, h2, h3, h4, h5, h6⟩ := h
    obtain ⟨xs, q1, q2, q3⟩ := pf_of (fun p hp => c p (List.mem_cons_of_mem _ hp)) (fun p hp => t p (List.mem_cons_of_mem _ hp)) h6
    have ck : k.isK = true := key_isK (c (k, d) List.mem_cons_self)
    have tk : k.isT = false := t (k, d) List.mem_cons_self
    have i1 : keyIs k.fk e.key = true := flat_is ck tk h2 h1
    refine ⟨(k.fk, e.val) :: xs, .cons i1 rfl q1, fun e' he => ?_, e.val, xs, rfl, ⟨y, h4, h5⟩, q3⟩
    rcases List.mem_cons.mp he with rfl | he
    · exact ⟨k.fk, i1, by rw [h3]; exact (flat_hash ck tk W.w).symm⟩
    · exact q2 e' he
theorem of_pf : ∀ {kvs : List (D × D)} {es : List DictEntry} {xs : List (Key × Value)}, (∀ p ∈ kvs, p.1.key = true) → (∀ p ∈ kvs, p.1.isT = false) → Pairs (mixKind P W.w) es xs →
    (∀ e ∈ es, ∃ k, (mixKind P W.w).is k e.key = true ∧ e.hash = (mixKind P W.w).hash k) → PF W mu m H kvs xs → RepE W mu m H kvs es
  | [], es, xs, _, _, p, _, h => by cases h; cases p; rfl
  | (k, d) :: r, es, xs, c, t, p, q, h => by
    obtain ⟨v, tl, rfl, ⟨y, h1, h2⟩, h3⟩ := h
    cases p with
    | @cons e _ er _ p1 p2 p3 =>
      have ck : k.isK = true := key_isK (c (k, d) List.mem_cons_self)
      have tk : k.isT = false := t (k, d) List.mem_cons_self
      obtain ⟨x, rx, rp⟩ := flat_rep (W := W) (mu := mu) (m := m) (H := H) ck tk p1
      refine ⟨e, er, x, y, rfl, rx, rp, ?_, ?_, h2, of_pf (fun p hp => c p (List.mem_cons_of_mem _ hp)) (fun p hp => t p (List.mem_cons_of_mem _ hp)) p3 (fun e' he => q e' (List.mem_cons_of_mem _ he)) h3⟩
      · obtain ⟨k', a, b⟩ := q e List.mem_cons_self
        have : k' = k.fk := (mixKind P W.w).inj _ _ _ a p1
        subst this
        rw [b]
        exact flat_hash ck tk W.w
      · have p2' : e.val = v := p2
        rw [p2']
        exact h1
theorem PF.keys : ∀ {kvs : List (D × D)} {xs : List (Key × Value)}, PF W mu m H kvs xs → xs.map (·.1) = kvs.map fun p => p.1.fk
  | [], _, h => by cases h; rfl
  | (k, d) :: r, _, h => by
    obtain ⟨v, t, rfl, h2, h4⟩ := h
    simp [PF.keys h4]
theorem same_flat {a k : D} (ca : a.isK = true) (ta : a.isT = false) (ck : k.isK = true) (tk : k.isT = false) : D.same a k = decide (a.fk = k.fk) := by
  unfold D.same
  rw [← NestedKey.decide_eq, ← fk_nk ca ta, ← fk_nk ck tk]
  by_cases e : a.fk = k.fk
  · rw [e]; simp
  · rw [decide_eq_false e, decide_eq_false fun z => e (keyNk_inj z)]
theorem PF.find : ∀ {kvs : List (D × D)} {xs : List (Key × Value)} (k : D), k.isK = true → k.isT = false → (∀ p ∈ kvs, p.1.key = true) → (∀ p ∈ kvs, p.1.isT = false) → PF W mu m H kvs xs →
    (∀ d, findK k kvs = some d → ∃ v, valueAt xs k.fk = some v ∧ ∃ y, RelV y v ∧ Rep W mu m H d y) ∧ (findK k kvs = none → valueAt xs k.fk = none)
  | [], _, k, _, _, _, _, h => by
    cases h
    exact ⟨(fun d e => by cases e), fun _ => rfl⟩
  | (a, d) :: r, _, k, ck, tk, c, t, h => by
    obtain ⟨v, tl, rfl, h1, h4⟩ := h
    have ih := PF.find k ck tk (fun p hp => c p (List.mem_cons_of_mem _ hp)) (fun p hp => t p (List.mem_cons_of_mem _ hp)) h4
    have e1 : valueAt ((a.fk, v) :: tl) k.fk = if a.fk = k.fk then some v else valueAt tl k.fk := by
      unfold valueAt
      rw [List.find?_cons]
      by_cases q : a.fk = k.fk
      · simp [q]
      · simp [q]
    rw [e1]
    unfold findK
    rw [same_flat (key_isK (c (a, d) List.mem_cons_self)) (t (a, d) List.mem_cons_self) ck tk]
    by_cases q : a.fk = k.fk
    · simp only [q, decide_true, if_true]
      exact ⟨(fun d' e => by cases e; exact ⟨_, rfl, h1⟩), (fun e => by cases e)⟩
    · simp only [q, decide_false, if_false, Bool.false_eq_true]
      exact ih
theorem any_find : ∀ {xs : List (Key × Value)} {q : Key}, xs.any (fun kv => decide (kv.1 = q)) = (valueAt xs q).isSome
  | [], _ => rfl
  | (a, v) :: r, q => by
    have e1 : valueAt ((a, v) :: r) q = if a = q then some v else valueAt r q := by
      unfold valueAt
      rw [List.find?_cons]
      by_cases z : a = q
      · simp [z]
      · simp [z]
    rw [e1, List.any_cons, any_find]
    by_cases z : a = q
    · simp [z]
    · simp [z]
theorem PF.put {kvs : List (D × D)} {xs : List (Key × Value)} {k d : D} {v : Value} {y : V} (h : PF W mu m H kvs xs) (ck : k.isK = true) (tk : k.isT = false) (c : ∀ p ∈ kvs, p.1.key = true) (t : ∀ p ∈ kvs, p.1.isT = false)
    (nd : (xs.map (·.1)).Nodup) (rv : RelV y v) (rd : Rep W mu m H d y) : PF W mu m H (putK k d kvs) (stored xs k.fk v) := by
  obtain ⟨f1, f2⟩ := PF.find k ck tk c t h
  have sa : xs.any (fun kv => decide (kv.1 = k.fk)) = (valueAt xs k.fk).isSome := any_find
  cases e : findK k kvs with
  | none =>
    have e0 := f2 e
    unfold stored
    rw [sa, e0, putK_new e]
    simp only [Option.isSome_none, Bool.false_eq_true, if_false]
    clear f1 f2 e e0 sa nd
    induction kvs generalizing xs with
    | nil => cases h; exact ⟨v, [], rfl, ⟨y, rv, rd⟩, rfl⟩
    | cons q r ih =>
      obtain ⟨a, d'⟩ := q
      obtain ⟨v', tl, rfl, h2, h4⟩ := h
      exact ⟨v', _, rfl, h2, ih h4 (fun p hp => c p (List.mem_cons_of_mem _ hp)) (fun p hp => t p (List.mem_cons_of_mem _ hp))⟩
  | some d0 =>
    obtain ⟨p, hp, _⟩ := f1 d0 e
    unfold stored
    rw [sa, hp]
    simp only [Option.isSome_some, if_true]
    clear f1 f2 hp sa
    induction kvs generalizing xs with
    | nil => cases e
    | cons q r ih =>
      obtain ⟨a, d'⟩ := q
      obtain ⟨v', tl, rfl, h2, h4⟩ := h
      have sf := same_flat (key_isK (c (a, d') List.mem_cons_self)) (t (a, d') List.mem_cons_self) ck tk
      unfold findK at e
      unfold putK
      rw [List.map_cons] at nd ⊢
      have nd' := List.nodup_cons.mp nd
      rw [sf] at e ⊢
      by_cases z : a.fk = k.fk
      · simp only [z, decide_true, if_true]
        have hn : k.fk ∉ tl.map (·.1) := by rw [← z]; exact nd'.1
        have hm : (tl.map fun kv => if kv.1 = k.fk then (kv.1, v) else kv) = tl := by
          clear ih e h4 nd nd' h2
          induction tl with
          | nil => rfl
          | cons w tl' ih2 =>
            rw [List.map_cons] at hn ⊢
            rw [List.mem_cons, not_or] at hn
            rw [ih2 hn.2, if_neg (fun q => hn.1 q.symm)]
        rw [hm]
        refine ⟨v, tl, ?_, ⟨y, rv, rd⟩, h4⟩
        rw [← z]
      · simp only [z, decide_false, if_false, Bool.false_eq_true] at e ⊢
        exact ⟨v', _, rfl, h2, ih h4 (fun p hp => c p (List.mem_cons_of_mem _ hp)) (fun p hp => t p (List.mem_cons_of_mem _ hp)) nd'.2 e⟩
end
end Ev
end
section
set_option maxHeartbeats 2000000
namespace Ev
open PySem PySem.Spec PyProof.Rows L2
/-- a dict, read -/
def DRd (W : Wd) (mu : Addr → Prop) (m : List Addr) (H : Hp) (p : Addr) (kvs : List (D × D)) : Prop := ∃ es, H p = some (DictO p es) ∧ KvOk kvs ∧ RepE W mu m H kvs es.1.toList
theorem RepU.dict {W : Wd} {mu : Addr → Prop} {m : List Addr} {H : Hp} {l v} (h : RepU W mu m H (.dct l) v) : ∃ p, v = .ref p ∧ DRd W mu m H p l := by
  rcases h with ⟨p, es, a, b, _, c, d⟩ | ⟨l', p, vs, e, rfl, c, q⟩ | ⟨l', p, es, e, rfl, c, d⟩
  · exact ⟨p, a, es, b, c, d⟩
  · cases e
  · cases e
    exact ⟨p, rfl, es, c, d⟩
theorem RepU.rep {W : Wd} {mu : Addr → Prop} {m : List Addr} {H : Hp} {k v} (hk : k.isK = true) (h : RepU W mu m H k v) : Rep W mu m H k v := by
  rcases h with h | ⟨l', p, vs, rfl, _⟩ | ⟨l', p, es, rfl, _⟩
  · exact h
  · cases hk
  · cases hk
section
variable {X : Cx} {W : Wd} {mu : Addr → Prop} {m : List Addr} {pins : List (Addr × Obj)} {σ : L2.St} {H : Hp} {s : Shared} {p : Addr} {kvs : List (D × D)} {A : Around} {E : Value → Shared → Prop}
theorem DictO.at (I : Inv X pins σ H s) {es} (h : H p = some (DictO p es)) : (p == sysModules) = false ∧ ∃ o : Obj, s.heap.get? p = some o ∧ o.ExactDict ∧ o.data = .dict es.1 es.2 := (I.hok p _ h).1
theorem okK_key {k : D} (h : okK k kvs = true) : k.key = true := (Bool.and_eq_true_iff.mp h).1
theorem okK_hom {k : D} (h : okK k kvs = true) : ∀ q ∈ kvs, q.1.isT = k.isT := fun q hq => by
  have := List.all_eq_true.mp (Bool.and_eq_true_iff.mp h).2 q hq
  simpa using this
theorem DRd.typeIs (I : Inv X pins σ H s) (d : DRd W mu m H p kvs) : s.TypeIs (.ref p) "dict" ∧ (∀ b, Value.ref p = .ref b → ∃ ob, s.heap.get? b = some ob ∧ ob.dict = none) ∧ (p == sysModules) = false := by
  obtain ⟨es, h, _, _⟩ := d
  obtain ⟨hd, o, h1, h2, h3⟩ := DictO.at I h
  refine ⟨⟨o, h1, h2.1⟩, fun b q => ?_, hd⟩
  cases q
  exact ⟨o, h1, h2.2.1⟩
theorem DRd.tups (I : Inv X pins σ H s) (eK : W.K = X.K) (ew : W.w = X.w) (d : DRd W mu m H p kvs) (t : ∀ q ∈ kvs, q.1.isT = true) :
    ∃ xs, s.heap.DictOfH (nestedKind X.prog X.w) p xs ∧ PX W mu m H kvs xs := by
  obtain ⟨es, h, k, r⟩ := d
  obtain ⟨hd, o, h1, h2, h3⟩ := DictO.at I h
  obtain ⟨xs, e, px⟩ := px_of (P := X.prog) t r
  rw [ew] at e
  refine ⟨xs, ⟨o, es.1, es.2, h1, h2, h3, e, fun x hx => ?_, by rw [px.keys]; exact k.nd⟩, px⟩
  obtain ⟨q, hq, e1, e2⟩ := px.mem x hx
  have kk := k.key q hq
  refine ⟨?_, by rw [e1]; exact key_dep kk⟩
  rw [e1]
  exact e2.nested I eK (key_isK kk) rfl
theorem DRd.flats (I : Inv X pins σ H s) (ew : W.w = X.w) (d : DRd W mu m H p kvs) (t : ∀ q ∈ kvs, q.1.isT = false) :
    ∃ xs, s.heap.DictOf (mixKind X.prog X.w) p xs ∧ PF W mu m H kvs xs := by
  obtain ⟨es, h, k, r⟩ := d
  obtain ⟨hd, o, h1, h2, h3⟩ := DictO.at I h
  obtain ⟨xs, q1, q2, q3⟩ := pf_of (P := X.prog) k.key t r
  rw [ew] at q1 q2
  refine ⟨xs, ⟨o, es.1, es.2, h1, h2, h3, fun e he => q2 e (Array.mem_toList_iff.mpr he), q1, ?_⟩, q3⟩
  rw [q3.keys]
  have nd := k.nd
  have e : (kvs.map fun p => p.1.nk) = (kvs.map fun p => p.1.fk).map keyNk := by
    rw [List.map_map]
    refine List.map_congr_left fun q hq => ?_
    exact (fk_nk (key_isK (k.key q hq)) (t q hq)).symm
  rw [e] at nd
  exact (List.pairwise_map.mp nd).imp fun h z => h (congrArg _ z)
theorem nk_room (hu : A.units + 66 < cLine) : (nestedKind X.prog X.w).room A.in1 := by
  show A.units + 1 + 8 < cLine
  omega
variable {k : D} {x : V} {u : Value}
theorem key_nested (I : Inv X pins σ H s) (eK : W.K = X.K) {b : Addr} (hk : k.key = true) (r : Rep W mu m H k (.ref b)) : (nestedKind X.prog X.w).is s.heap k.nk b := ⟨r.nested I eK (key_isK hk) rfl, key_dep hk⟩
theorem tup_ref {k : D} {x : V} {u : Value} (t : k.isT = true) (r : Rep W mu m H k x) (ru : RelV x u) : ∃ b, x = .ref b ∧ u = .ref b := by
  cases k <;> first | cases t | skip
  obtain ⟨p, vs, rfl, _⟩ := r
  cases ru
  exact ⟨p, rfl, rfl⟩
/-- d[k], there -/
theorem dd_getItem (hu : A.units + 66 < cLine) (I : Inv X pins σ H s) (eK : W.K = X.K) (ew : W.w = X.w) (d : DRd W mu m H p kvs) (ok : okK k kvs = true) (rk : Rep W mu m H k x) (ru : RelV x u) {v : D} (hf : findK k kvs = some v)
    {Q : Value → Shared → Prop} (h : ∀ y w' s', Inv X pins σ H s' → RelV y w' → Rep W mu m H v y → Q w' s') : wpAny (model X.prog X.w) A (getItem (.ref p) u) Q E s := by
  have hk := okK_key ok
  cases t : k.isT with
  | true =>
    obtain ⟨xs, dx, px⟩ := d.tups I eK ew fun q hq => (okK_hom ok q hq).trans t
    obtain ⟨b, rfl, rfl⟩ := tup_ref t rk ru
    obtain ⟨q, hq, y, ry, rd⟩ := (px.find k).1 v hf
    exact wpAny_getItem_heap (nk_room hu) (key_nested I eK hk rk) dx hq (h y _ _ (I.tok _) ry rd)
  | false =>
    have tf : ∀ q ∈ kvs, q.1.isT = false := fun q hq => (okK_hom ok q hq).trans t
    obtain ⟨es, _, kv, _⟩ := id d
    obtain ⟨xs, dx, px⟩ := d.flats I ew tf
    obtain ⟨q, hq, y, ry, rd⟩ := (px.find k (key_isK hk) t kv.key tf).1 v hf
    exact wpAny_getItem_of (flat_is (key_isK hk) t rk ru) dx.mapOf hq (h y _ _ (I.tok _) ry rd)
theorem dd_find (I : Inv X pins σ H s) (eK : W.K = X.K) (ew : W.w = X.w) (d : DRd W mu m H p kvs) (ok : okK k kvs = true) (rk : Rep W mu m H k x) (ru : RelV x u) :
    (∃ b xs, u = .ref b ∧ k.isT = true ∧ s.heap.DictOfH (nestedKind X.prog X.w) p xs ∧ PX W mu m H kvs xs ∧ (nestedKind X.prog X.w).is s.heap k.nk b ∧ Rep W mu m H k (.ref b) ∧ (findK k kvs).isSome = (atKey xs k.nk).isSome) ∨
    (∃ xs, k.isT = false ∧ s.heap.DictOf (mixKind X.prog X.w) p xs ∧ PF W mu m H kvs xs ∧ (mixKind X.prog X.w).is k.fk u = true ∧ (findK k kvs).isSome = (valueAt xs k.fk).isSome) := by
  have hk := okK_key ok
  cases t : k.isT with
  | true =>
    obtain ⟨xs, dx, px⟩ := d.tups I eK ew fun q hq => (okK_hom ok q hq).trans t
    obtain ⟨b, rfl, rfl⟩ := tup_ref t rk ru
    refine .inl ⟨b, xs, rfl, rfl, dx, px, key_nested I eK hk rk, rk, ?_⟩
    obtain ⟨f1, f2⟩ := px.find k
    cases e : findK k kvs with
    | none => rw [f2 e]; rfl
    | some v =>
      obtain ⟨q, hq, _⟩ := f1 v e
      rw [hq]; rfl
  | false =>
    have tf : ∀ q ∈ kvs, q.1.isT = false := fun q hq => (okK_hom ok q hq).trans t
    obtain ⟨es, _, kv, _⟩ := id d
    obtain ⟨xs, dx, px⟩ := d.flats I ew tf
    refine .inr ⟨xs, rfl, dx, px, flat_is (key_isK hk) t rk ru, ?_⟩
    obtain ⟨f1, f2⟩ := px.find k (key_isK hk) t kv.key tf
    cases e : findK k kvs with
    | none => rw [f2 e]; rfl
    | some v =>
      obtain ⟨q, hq, _⟩ := f1 v e
      rw [hq]; rfl
/-- k in d -/
theorem dd_in (hu : A.units + 66 < cLine) (I : Inv X pins σ H s) (eK : W.K = X.K) (ew : W.w = X.w) (d : DRd W mu m H p kvs) (ok : okK k kvs = true) (rk : Rep W mu m H k x) (ru : RelV x u) {neg : Bool}
    {Q : Value → Shared → Prop} (h : ∀ s', Inv X pins σ H s' → Q (.bool (if neg then !(findK k kvs).isSome else (findK k kvs).isSome)) s') : wpAny (model X.prog X.w) A (compareOp (if neg then .NotIn else .In) u (.ref p)) Q E s := by
  obtain ⟨_, _, hd⟩ := d.typeIs I
  rcases dd_find I eK ew d ok rk ru with ⟨b, xs, rfl, t, dx, px, kn, _, e⟩ | ⟨xs, t, dx, px, kn, e⟩
  · rw [e] at h
    cases neg
    · exact wpAny_in_heap (nk_room hu) kn hd dx (h _ (I.tok _))
    · exact wpAny_notIn_heap (nk_room hu) kn hd dx (h _ (I.tok _))
  · rw [e] at h
    cases neg
    · exact wpAny_in_of kn hd dx.mapOf (h _ (I.tok _))
    · exact wpAny_notIn_of kn hd dx.mapOf (h _ (I.tok _))
/-- d.get(k, x) -/
theorem dd_get2 (hu : A.units + 66 < cLine) (I : Inv X pins σ H s) (eK : W.K = X.K) (ew : W.w = X.w) (d : DRd W mu m H p kvs) (ok : okK k kvs = true) (rk : Rep W mu m H k x) (ru : RelV x u) {df : D} {z : V} {r : Value} (rz : RelV z r) (rd : Rep W mu m H df z)
    {Q : Value → Shared → Prop} (h : ∀ y w' s', Inv X pins σ H s' → RelV y w' → Rep W mu m H ((findK k kvs).getD df) y → Q w' s') : wpAny (model X.prog X.w) A (call (.builtin "dict.get") [.ref p, u, r]) Q E s := by
  obtain ⟨_, _, hd⟩ := d.typeIs I
  have hk := okK_key ok
  rcases dd_find I eK ew d ok rk ru with ⟨b, xs, rfl, t, dx, px, kn, _, e⟩ | ⟨xs, t, dx, px, kn, e⟩
  · obtain ⟨f1, f2⟩ := px.find k
    refine call_meetsIn PySem.F.slot_dict_get dx.typeIs PySem.F.entry_dict_get (PySem.F.args_dict_get_3 _ _ _) (meetsH_dict_get_default (nestedKind X.prog X.w) p b hd r) ⟨by show A.units + 1 + 8 < cLine; omega, k.nk, xs, kn, dx, ?_⟩
    cases e : findK k kvs with
    | none =>
      rw [f2 e]
      rw [e] at h
      exact h z _ _ (I.tok _) rz rd
    | some v =>
      obtain ⟨q, hq, y, ry, rv⟩ := f1 v e
      rw [hq]
      rw [e] at h
      exact h y _ _ (I.tok _) ry rv
  · have tf : ∀ q ∈ kvs, q.1.isT = false := fun q hq => (okK_hom ok q hq).trans t
    obtain ⟨es, _, kv, _⟩ := id d
    obtain ⟨f1, f2⟩ := px.find k (key_isK hk) t kv.key tf
    refine call_meetsIn PySem.F.slot_dict_get dx.typeIs PySem.F.entry_dict_get (PySem.F.args_dict_get_3 _ _ _) (meets_dict_get_default (mixKind X.prog X.w) p kn hd r) ⟨_, dx.mapOf, ?_⟩
    cases e : findK k kvs with
    | none =>
      rw [f2 e]
      rw [e] at h
      exact h z _ _ (I.tok _) rz rd
    | some v =>
      obtain ⟨q, hq, y, ry, rv⟩ := f1 v e
      rw [hq]
      rw [e] at h
      exact h y _ _ (I.tok _) ry rv
theorem dd_get1 (hu : A.units + 66 < cLine) (I : Inv X pins σ H s) (eK : W.K = X.K) (ew : W.w = X.w) (d : DRd W mu m H p kvs) (ok : okK k kvs = true) (rk : Rep W mu m H k x) (ru : RelV x u)
    {Q : Value → Shared → Prop} (h : ∀ y w' s', Inv X pins σ H s' → RelV y w' → Rep W mu m H ((findK k kvs).getD .non) y → Q w' s') : wpAny (model X.prog X.w) A (call (.builtin "dict.get") [.ref p, u]) Q E s := by
  obtain ⟨_, _, hd⟩ := d.typeIs I
  have hk := okK_key ok
  rcases dd_find I eK ew d ok rk ru with ⟨b, xs, rfl, t, dx, px, kn, _, e⟩ | ⟨xs, t, dx, px, kn, e⟩
  · obtain ⟨f1, f2⟩ := px.find k
    refine call_meetsIn PySem.F.slot_dict_get dx.typeIs PySem.F.entry_dict_get (PySem.F.args_dict_get_2 _ _) (meetsH_dict_get (nestedKind X.prog X.w) p b hd) ⟨by show A.units + 1 + 8 < cLine; omega, k.nk, xs, kn, dx, ?_⟩
    cases e : findK k kvs with
    | none =>
      rw [f2 e]
      rw [e] at h
      exact h .non _ _ (I.tok _) rfl rfl
    | some v =>
      obtain ⟨q, hq, y, ry, rv⟩ := f1 v e
      rw [hq]
      rw [e] at h
      exact h y _ _ (I.tok _) ry rv
  · have tf : ∀ q ∈ kvs, q.1.isT = false := fun q hq => (okK_hom ok q hq).trans t
    obtain ⟨es, _, kv, _⟩ := id d
    obtain ⟨f1, f2⟩ := px.find k (key_isK hk) t kv.key tf
    refine call_meetsIn PySem.F.slot_dict_get dx.typeIs PySem.F.entry_dict_get (PySem.F.args_dict_get_2 _ _) (meets_dict_get (mixKind X.prog X.w) p kn hd) ⟨_, dx.mapOf, ?_⟩
    cases e : findK k kvs with
    | none =>
      rw [f2 e]
      rw [e] at h
      exact h .non _ _ (I.tok _) rfl rfl
    | some v =>
      obtain ⟨q, hq, y, ry, rv⟩ := f1 v e
      rw [hq]
      rw [e] at h
      exact h y _ _ (I.tok _) ry rv
end
end Ev
end
section
set_option maxHeartbeats 2000000
namespace Ev
open PySem PySem.Spec PyProof.Rows L2
/-! ### dicts by raw entries: made, stored to -/
theorem dictO_ok {P : Program} {w : World} {H : Hp} {h : Heap} {a : Addr} {es : Array DictEntry × Nat} {o : Obj} (hd : (a == sysModules) = false) (ho : h.get? a = some o) (hc : o.ExactDict) (hdat : o.data = .dict es.1 es.2) : ObjOk P w H h a (DictO a es) :=
  ⟨⟨hd, o, ho, hc, hdat⟩, ⟨o, ho⟩, fun h1 h2 q k => let ⟨hd, o, a1, a2, a3⟩ := q; ⟨hd, o, k o a1, a2, a3⟩⟩
theorem dictO_new {P : Program} {w : World} {H : Hp} (h : Heap) (hb : sysModules < h.objs.size) : ObjOk P w H (h.push { cls := .type "dict", data := .dict #[] }) h.objs.size (DictO h.objs.size (#[], 0)) :=
  dictO_ok (beq_eq_false_iff_ne.mpr (Ne.symm (Nat.ne_of_lt hb))) (Heap.get?_push_size _ rfl) ⟨rfl, rfl, rfl⟩ rfl
theorem findK_none {k : D} : ∀ {kvs : List (D × D)}, findK k kvs = none → ∀ p ∈ kvs, p.1.nk ≠ k.nk
  | [], _, p, hp => by cases hp
  | (a, u) :: r, h, p, hp => by
    unfold findK at h
    split at h
    · cases h
    · rename_i q
      rcases List.mem_cons.mp hp with rfl | hp
      · exact fun z => q (by unfold D.same; rw [z]; exact NestedKey.beq_self _)
      · exact findK_none h p hp
theorem putK_keys {k d x : D} : ∀ {kvs : List (D × D)}, findK k kvs = some x → (putK k d kvs).map (·.1) = kvs.map (·.1)
  | [], h => by cases h
  | (a, u) :: r, h => by
    unfold findK at h
    unfold putK
    split at h
    · rename_i q
      rw [if_pos q]
      rfl
    · rename_i q
      rw [if_neg q, List.map_cons, List.map_cons, putK_keys h]
theorem KvOk.nil : KvOk [] := ⟨(fun _ h => by cases h), List.nodup_nil, .inl (fun _ h => by cases h), Nat.zero_le _⟩
theorem KvOk.put {kvs : List (D × D)} {k d : D} (h : KvOk kvs) (ok : okK k kvs = true) (hl : kvs.length < sizeLine) : KvOk (putK k d kvs) := by
  have hk := okK_key ok
  have hh := okK_hom ok
  cases e : findK k kvs with
  | none =>
    rw [putK_new e]
    refine ⟨fun p hp => ?_, ?_, ?_, by rw [List.length_append]; exact hl⟩
    · rcases List.mem_append.mp hp with hp | hp
      · exact h.key p hp
      · rw [List.mem_singleton.mp hp]
        exact hk
    · rw [List.map_append]
      refine List.nodup_append.mpr ⟨h.nd, by simp, fun a ha b hb z => ?_⟩
      obtain ⟨p, hp, rfl⟩ := List.mem_map.mp ha
      have hb : b = k.nk := by simpa using hb
      exact findK_none e p hp (z.trans hb)
    · cases t : k.isT with
      | true =>
        refine .inl fun p hp => ?_
        rcases List.mem_append.mp hp with hp | hp
        · exact (hh p hp).trans t
        · rw [List.mem_singleton.mp hp]
          exact t
      | false =>
        refine .inr fun p hp => ?_
        rcases List.mem_append.mp hp with hp | hp
        · exact (hh p hp).trans t
        · rw [List.mem_singleton.mp hp]
          exact t
  | some x =>
    have ek := putK_keys (d := d) e
    have mem : ∀ p ∈ putK k d kvs, ∃ q ∈ kvs, q.1 = p.1 := fun p hp => by
      have : p.1 ∈ (putK k d kvs).map (·.1) := List.mem_map_of_mem hp
      rw [ek] at this
      obtain ⟨q, hq, e⟩ := List.mem_map.mp this
      exact ⟨q, hq, e⟩
    refine ⟨fun p hp => ?_, ?_, ?_, ?_⟩
    · obtain ⟨q, hq, e⟩ := mem p hp
      rw [← e]
      exact h.key q hq
    · have e1 : ((putK k d kvs).map fun p => p.1.nk) = ((putK k d kvs).map (·.1)).map D.nk := by rw [List.map_map]; rfl
      rw [e1, ek, List.map_map]
      exact h.nd
    · rcases h.hom with h | h
      · exact .inl fun p hp => let ⟨q, hq, e⟩ := mem p hp; by rw [← e]; exact h q hq
      · exact .inr fun p hp => let ⟨q, hq, e⟩ := mem p hp; by rw [← e]; exact h q hq
    · have := congrArg List.length ek
      rw [List.length_map, List.length_map] at this
      rw [this]
      exact h.len
section
variable {X : Cx} {W : Wd} {mu : Addr → Prop} {m : List Addr} {pins : List (Addr × Obj)} {σ : L2.St} {H : Hp} {s : Shared} {p : Addr} {kvs : List (D × D)} {A : Around} {E : Value → Shared → Prop} {k d : D} {x y : V} {u v : Value}
theorem DRd.mut (d : DRd W mu m H p kvs) : Mut (H p) := by
  obtain ⟨es, h, _⟩ := d
  rw [h]
  exact True.intro
theorem DRd.hd (I : Inv X pins σ H s) (d : DRd W mu m H p kvs) : (p == sysModules) = false := (d.typeIs I).2.2
/-- behind a store, tuples as keys -/
theorem dd_putT (I : Inv X pins σ H s) (ew : W.w = X.w) (dr : DRd W mu m H p kvs) {xs : List (NestedKey × Addr × Value)} {b : Addr} (dx : s.heap.DictOfH (nestedKind X.prog X.w) p xs) (px : PX W mu m H kvs xs) (rk : Rep W mu m H k (.ref b)) (rv : RelV y v) (rd : Rep W mu m H d y) {h' : Heap} {t' : Nat}
    (dd : h'.DictOfH (nestedKind X.prog X.w) p (storedH xs k.nk b v)) (sb : Heap.SameBut p s.heap h') : ∃ es', Inv X pins σ (upd H p (DictO p es')) { s with heap := h', toks := t' } ∧ RepE W mu m H (putK k d kvs) es'.1.toList := by
  obtain ⟨_, _, _, _, _, _, _, _, nd⟩ := dx
  obtain ⟨o, es, ep, h1, h2, h3, h4, _, _⟩ := dd
  refine ⟨(es, ep), d_write I dr.mut sb ⟨o, h1⟩ (dictO_ok (dr.hd I) h1 h2 h3), ?_⟩
  show RepE W mu m H _ es.toList
  rw [h4, ← ew]
  exact of_px (px.put nd rk rv rd)
/-- .. flat ones -/
theorem dd_putF (I : Inv X pins σ H s) (ew : W.w = X.w) (dr : DRd W mu m H p kvs) (hk : k.isK = true) (t : k.isT = false) (kc : ∀ q ∈ kvs, q.1.key = true) (kf : ∀ q ∈ kvs, q.1.isT = false) (kk : k.key = true) {xs : List (Key × Value)} (dx : s.heap.DictOf (mixKind X.prog X.w) p xs) (px : PF W mu m H kvs xs) (rv : RelV y v) (rd : Rep W mu m H d y) {h' : Heap} {t' : Nat}
    (dd : h'.DictOf (mixKind X.prog X.w) p (stored xs k.fk v)) (sb : Heap.SameBut p s.heap h') : ∃ es', Inv X pins σ (upd H p (DictO p es')) { s with heap := h', toks := t' } ∧ RepE W mu m H (putK k d kvs) es'.1.toList := by
  obtain ⟨_, _, _, _, _, _, _, _, nd⟩ := dx
  obtain ⟨o, es, ep, h1, h2, h3, h4, h5, _⟩ := dd
  refine ⟨(es, ep), d_write I dr.mut sb ⟨o, h1⟩ (dictO_ok (dr.hd I) h1 h2 h3), ?_⟩
  have mem : ∀ q ∈ putK k d kvs, q.1 = k ∨ ∃ q' ∈ kvs, q'.1 = q.1 := fun q hq => by
    cases e : findK k kvs with
    | none =>
      rw [putK_new e] at hq
      rcases List.mem_append.mp hq with hq | hq
      · exact .inr ⟨q, hq, rfl⟩
      · rw [List.mem_singleton.mp hq]
        exact .inl rfl
    | some z =>
      have : q.1 ∈ (putK k d kvs).map (·.1) := List.mem_map_of_mem hq
      rw [putK_keys e] at this
      obtain ⟨q', hq', e⟩ := List.mem_map.mp this
      exact .inr ⟨q', hq', e⟩
  refine of_pf (P := X.prog) (xs := stored xs k.fk v) (fun q hq => ?_) (fun q hq => ?_) (by rw [ew]; exact h5) (fun e he => ?_) (px.put hk t kc kf nd rv rd)
  · rcases mem q hq with e | ⟨q', hq', e⟩
    · rw [e]; exact kk
    · rw [← e]; exact kc q' hq'
  · rcases mem q hq with e | ⟨q', hq', e⟩
    · rw [e]; exact t
    · rw [← e]; exact kf q' hq'
  · rw [ew]
    exact h4 e (Array.mem_toList_iff.mp he)
/-- d[k] = v -/
theorem dd_setItem (hu : A.units + 66 < cLine) (I : Inv X pins σ H s) (eK : W.K = X.K) (ew : W.w = X.w) (dr : DRd W mu m H p kvs) (ok : okK k kvs = true) (hz : kvs.length < sizeLine) (rk : Rep W mu m H k x) (ru : RelV x u) (rv : RelV y v) (rd : Rep W mu m H d y)
    {Q : Unit → Shared → Prop} (h : ∀ es' s', Inv X pins σ (upd H p (DictO p es')) s' → RepE W mu m H (putK k d kvs) es'.1.toList → Q () s') : wpAny (model X.prog X.w) A (setItem (.ref p) u v) Q E s := by
  have hk := okK_key ok
  cases t : k.isT with
  | true =>
    obtain ⟨xs, dx, px⟩ := dr.tups I eK ew fun q hq => (okK_hom ok q hq).trans t
    obtain ⟨b, rfl, rfl⟩ := tup_ref t rk ru
    exact wpAny_setItem_heap (hsz := by rw [px.length]; exact Nat.le_of_lt hz) (nk_room hu) (key_nested I eK hk rk) dx fun h' dd sb => by
      obtain ⟨es', I', r'⟩ := dd_putT I ew dr dx px rk rv rd dd sb
      exact h es' _ I' r'
  | false =>
    have tf : ∀ q ∈ kvs, q.1.isT = false := fun q hq => (okK_hom ok q hq).trans t
    obtain ⟨es, _, kv, _⟩ := id dr
    obtain ⟨xs, dx, px⟩ := dr.flats I ew tf
    have pl : xs.length = kvs.length := by
      have := congrArg List.length px.keys
      simpa using this
    exact wpAny_setItem_pairs (hsz := by rw [pl]; exact Nat.le_of_lt hz) (flat_is (key_isK hk) t rk ru) dx fun h' dd sb => by
      obtain ⟨es', I', r'⟩ := dd_putF I ew dr (key_isK hk) t kv.key tf hk dx px rv rd dd sb
      exact h es' _ I' r'
/-- .. by a comprehension -/
theorem dd_dictSet (hu : A.units + 66 < cLine) (I : Inv X pins σ H s) (eK : W.K = X.K) (ew : W.w = X.w) (dr : DRd W mu m H p kvs) (ok : okK k kvs = true) (hz : kvs.length < sizeLine) (rk : Rep W mu m H k x) (ru : RelV x u) (rv : RelV y v) (rd : Rep W mu m H d y)
    {Q : Unit → Shared → Prop} (h : ∀ es' s', Inv X pins σ (upd H p (DictO p es')) s' → RepE W mu m H (putK k d kvs) es'.1.toList → Q () s') : wpAny (model X.prog X.w) A (dictSet p u v) Q E s := by
  have hk := okK_key ok
  cases t : k.isT with
  | true =>
    obtain ⟨xs, dx, px⟩ := dr.tups I eK ew fun q hq => (okK_hom ok q hq).trans t
    obtain ⟨b, rfl, rfl⟩ := tup_ref t rk ru
    exact wpAny_dictSet_heap (hsz := by rw [px.length]; exact Nat.le_of_lt hz) (show A.units + 8 < cLine by omega) (key_nested I eK hk rk) dx fun h' dd sb => by
      obtain ⟨es', I', r'⟩ := dd_putT I ew dr dx px rk rv rd dd sb
      exact h es' _ I' r'
  | false =>
    have tf : ∀ q ∈ kvs, q.1.isT = false := fun q hq => (okK_hom ok q hq).trans t
    obtain ⟨es, _, kv, _⟩ := id dr
    obtain ⟨xs, dx, px⟩ := dr.flats I ew tf
    have pl : xs.length = kvs.length := by
      have := congrArg List.length px.keys
      simpa using this
    exact wpAny_dictSet_pairs (hsz := by rw [pl]; exact Nat.le_of_lt hz) (flat_is (key_isK hk) t rk ru) dx fun h' dd sb => by
      obtain ⟨es', I', r'⟩ := dd_putF I ew dr (key_isK hk) t kv.key tf hk dx px rv rd dd sb
      exact h es' _ I' r'
end
end Ev
end
section
set_option maxHeartbeats 2000000
namespace Ev
open PySem PySem.Spec PyProof.Rows L2
theorem M.bind_assoc {α β γ : Type} (x : M α) (f : α → M β) (g : β → M γ) : M.bind (M.bind x f) g = M.bind x fun a => M.bind (f a) g := by
  funext A
  unfold M.bind
  cases x A <;> rfl
theorem M.pure_bind {α β : Type} (a : α) (f : α → M β) : M.bind (M.pure a) f = f a := rfl
/-- test of a value -/
def tst (x : M D) : M Bool := x.bind fun d => ofO (asBl d)
def RpB : Rp Bool Bool := fun _ _ _ a b => a = b
def RpsX (b : Bool) (W : Wd) (mu : Addr → Prop) (m : List Addr) (H : Hp) : List D → List V → Prop
  | [], vs => vs = []
  | d :: ds, vs => ∃ v r, vs = v :: r ∧ RepX b W mu m H d v ∧ RpsX b W mu m H ds r
theorem rpsX_f {W mu m H} : ∀ {ds vs}, RpsX false W mu m H ds vs → Reps W mu m H ds vs
  | [], _, h => h
  | _ :: _, _, ⟨v, r, e, h1, h2⟩ => ⟨v, r, e, h1, rpsX_f h2⟩
theorem rpsX_of {b W mu m H} : ∀ {ds vs}, Reps W mu m H ds vs → RpsX b W mu m H ds vs
  | [], _, h => h
  | _ :: _, _, ⟨v, r, e, h1, h2⟩ => ⟨v, r, e, repx h1, rpsX_of h2⟩
theorem RpsX.append {b W mu m H} : ∀ {ds vs es us}, RpsX b W mu m H ds vs → RpsX b W mu m H es us → RpsX b W mu m H (ds ++ es) (vs ++ us)
  | [], _, _, _, h, h' => by cases h; exact h'
  | _ :: _, _, _, _, ⟨v, r, e, h1, h2⟩, h' => by subst e; exact ⟨v, _, rfl, h1, RpsX.append h2 h'⟩
abbrev GA (X : Cx) (W : Wd) (z : En) (Wx : WX) (b : Bool) (es : List Expr) (f : Env → M (List D)) : Prop := PA X es (TG W z Wx (RpsX b W) f)
abbrev GT (X : Cx) (W : Wd) (z : En) (Wx : WX) (e : Expr) (f : Env → M Bool) : Prop := PT X e (TG W z Wx RpB f)
section
variable {X : Cx} {W : Wd} {z : En} {Wx : WX} {m m' : List Addr} {ow : Ow} {ρ : Env} {A A' : AH} {σ : L2.St} {H H' : Hp} {bb : Bool} {e e1 e2 e3 : Expr} {f f1 f2 f3 : Env → M D} {pos : Pos}
theorem asBl_some {x : D} {k : Bool} (h : asBl x = some k) : x = .bl k := by
  cases x <;> cases h
  rfl
theorem RepB.bl' {mu k v} (h : RepB W mu m H (.bl k) v) : v = .bl k := h.u.bl
/-- a value's reading as a test -/
theorem tst_w {Q : Bool → Hp → Prop} (h : TG W z Wx RpB (fun ρ => tst (f ρ)) σ H Q) : TEv W z Wx bb f σ H fun x H1 => ∃ k, x = .bl k ∧ Q k H1 := by
  obtain ⟨m, ow, ρ, A, S, q⟩ := h
  exact tg_then (fa := f) S q fun m1 H1 A1 d v s1 S1 r1 q1 => by
    obtain ⟨k, e, q2⟩ := ofO_out q1
    cases asBl_some e
    exact ⟨k, r1.b.bl', q2.now S1 rfl⟩
theorem gt_val (h : GE X W z Wx bb e f) (he : ∀ whole, isTrue e X.env whole = (do let v ← whole; standAt e.pos; holding [v] (truthy v))) : GT X W z Wx e (fun ρ => tst (f ρ)) :=
  pt_weak (pt_val h he) fun _ _ _ q => tst_w q
/-! ### comparisons -/
def rD (X : Cx) (op : CmpOp) : R2 := fun x y H Q => ∃ (W : Wd) (mu : Addr → Prop) (m : List Addr) (a b : D) (c : Bool), (W.K = X.K ∧ W.w = X.w) ∧ RepU W mu m H a x ∧ RepU W mu m H b y ∧ cmpD op a b = some c ∧ Q (.bl c) H
theorem rD_C {X : Cx} {op : CmpOp} {x y : V} {H : Hp} {Q : VK} (h : rD X op x y H Q) : rC X.K op x y H Q := by
  obtain ⟨W, mu, m, a, b, c, e, r⟩ := h
  exact ⟨W, mu, m, a, b, c, e.1, r⟩
theorem op_in (hu : X.A.units + 66 < cLine) {neg : Bool} : OpR X (compareOp (if neg then .NotIn else .In)) (rD X (if neg then .NotIn else .In)) := by
  intro pins s σ H x y v u Q I rx ry ⟨W, mu, m, a, b, c, e, ra, rb, hc, q⟩
  have hc' : (inD a b).map (fun k => if neg then !k else k) = some c := by
    cases neg
    · have hc2 : inD a b = some c := hc
      rw [hc2]; rfl
    · exact hc
  clear hc
  cases b with
  | dct kvs =>
    have hc1 : (if okK a kvs = true then some (findK a kvs).isSome else none).map (fun k => if neg then !k else k) = some c := hc'
    by_cases ok : okK a kvs = true
    · rw [if_pos ok] at hc1
      have hc'' : (if neg then !(findK a kvs).isSome else (findK a kvs).isSome) = c := Option.some.inj hc1
      obtain ⟨p, rfl, d⟩ := rb.dict
      cases ry
      exact dd_in hu I e.1 e.2 d ok (ra.rep (key_isK (okK_key ok))) rx fun s' I' => ⟨.bl c, H, I', by rw [hc'']; rfl, q⟩
    · rw [if_neg ok] at hc1
      cases hc1
  | tup l =>
    have hc1 : (if (a.ok && l.all D.ok) = true then some (l.any fun z => eqD z a) else none).map (fun k => if neg then !k else k) = some c := hc'
    by_cases ok : (a.ok && l.all D.ok) = true
    · rw [if_pos ok] at hc1
      obtain ⟨h1, h2⟩ := Bool.and_eq_true_iff.mp ok
      have hc'' : (if neg then !(l.any fun z => eqD z a) else l.any fun z => eqD z a) = c := Option.some.inj hc1
      exact in_seq hu e.1 I rx ry ra rb (.inl rfl) h1 h2 ⟨.bl c, H, I, by rw [hc'']; rfl, q⟩
    · rw [if_neg ok] at hc1
      cases hc1
  | lst l =>
    have hc1 : (if (a.ok && l.all D.ok) = true then some (l.any fun z => eqD z a) else none).map (fun k => if neg then !k else k) = some c := hc'
    by_cases ok : (a.ok && l.all D.ok) = true
    · rw [if_pos ok] at hc1
      obtain ⟨h1, h2⟩ := Bool.and_eq_true_iff.mp ok
      have hc'' : (if neg then !(l.any fun z => eqD z a) else l.any fun z => eqD z a) = c := Option.some.inj hc1
      exact in_seq hu e.1 I rx ry ra rb (.inr rfl) h1 h2 ⟨.bl c, H, I, by rw [hc'']; rfl, q⟩
    · rw [if_neg ok] at hc1
      cases hc1
  | _ => exact False.elim (by cases (show (none : Option Bool).map _ = some c from hc'))
theorem OpR.wk {f : Value → Value → Sem Value} {r r' : R2} (h : OpR X f r) (w : ∀ x y H Q, r' x y H Q → r x y H Q) : OpR X f r' := fun pins s σ H x y v u Q I rx ry q => h pins s σ H x y v u Q I rx ry (w _ _ _ _ q)
theorem op_cmp (hu : X.A.units + 66 < cLine) (op : CmpOp) : OpR X (compareOp op) (rD X op) := by
  cases op with
  | Eq => exact OpR.wk (op_cEq hu) fun _ _ _ _ q => rD_C q
  | NotEq => exact OpR.wk (op_cNe hu) fun _ _ _ _ q => rD_C q
  | Lt => exact OpR.wk (op_cLess hu rfl) fun _ _ _ _ q => rD_C q
  | LtE => exact OpR.wk (op_cLess hu rfl) fun _ _ _ _ q => rD_C q
  | Gt => exact OpR.wk (op_cLess hu rfl) fun _ _ _ _ q => rD_C q
  | GtE => exact OpR.wk (op_cLess hu rfl) fun _ _ _ _ q => rD_C q
  | Is => exact OpR.wk op_cIs fun _ _ _ _ q => rD_C q
  | IsNot => exact OpR.wk op_cIsNot fun _ _ _ _ q => rD_C q
  | In => exact op_in (neg := false) hu
  | NotIn => exact op_in (neg := true) hu
/-- no set display behind in -/
def noSet : Expr → Bool
  | .Set _ _ _ => false
  | _ => true
theorem noSet_m {op : CmpOp} (h : noSet e = true) : behindInMarks op e = false := by
  cases e <;> first | rfl | cases h
def evCmp (op : CmpOp) (f1 f2 : Env → M D) : Env → M D := fun ρ => (f1 ρ).bind fun x => (f2 ρ).bind fun y => (ofO (cmpD op x y)).bind fun c => M.pure (.bl c)
def evCmp2 (o1 o2 : CmpOp) (f1 f2 f3 : Env → M D) : Env → M D := fun ρ => (f1 ρ).bind fun x => (f2 ρ).bind fun y => (ofO (cmpD o1 x y)).bind fun k =>
      if k then (f3 ρ).bind fun z => (ofO (cmpD o2 y z)).bind fun k' => M.pure (.bl k') else M.pure (.bl false)
theorem cmp_w (c : CtxOk X W) {op : CmpOp} {Q : VK} (h : TEv W z Wx bb (evCmp op f1 f2) σ H Q) : tOp (rD X op) (TEv W z Wx true f1) (TEv W z Wx true f2) σ H Q := by
  obtain ⟨m, ow, ρ, A, S, q⟩ := h
  refine te_then (fa := f1) S q fun m1 H1 A1 a x s1 S1 r1 q1 => te_then (fa := f2) S1 q1 fun m2 H2 A2 b y s2 S2 r2 q2 => ?_
  obtain ⟨k, e, q3⟩ := ofOb q2
  exact ⟨W, _, m2, a, b, k, ⟨c.1.symm, c.2.2.symm⟩, (r1.mono S1 s2).u, r2.u, e, OutG.flat S2 q3 rfl⟩
theorem ge_cmp (c : CtxOk X W) (hu : X.A.units + 66 < cLine) {op : CmpOp} (h1 : GE X W z Wx true e1 f1) (h2 : GE X W z Wx true e2 f2) (hs : noSet e2 = true) : GE X W z Wx bb (.Compare e1 [op] [e2] pos) (evCmp op f1 f2) :=
  pe_weak (pe_cmpR (op_cmp hu op) h1 h2 (noSet_m hs)) fun _ _ _ q => cmp_w c q
theorem gt_cmp (c : CtxOk X W) (hu : X.A.units + 66 < cLine) {op : CmpOp} (h1 : GE X W z Wx true e1 f1) (h2 : GE X W z Wx true e2 f2) (hs : noSet e2 = true) : GT X W z Wx (.Compare e1 [op] [e2] pos) (fun ρ => tst (evCmp op f1 f2 ρ)) :=
  pt_weak (pt_cmpR (op_cmp hu op) h1 h2 (noSet_m hs)) fun _ _ _ q => cmp_w c (tst_w (bb := true) q)
theorem cmp2_w (c : CtxOk X W) {o1 o2 : CmpOp} {Q : VK} (h : TEv W z Wx bb (evCmp2 o1 o2 f1 f2 f3) σ H Q) : tChain (rD X o1) (rD X o2) (TEv W z Wx true f1) (TEv W z Wx true f2) (TEv W z Wx true f3) σ H Q := by
  obtain ⟨m, ow, ρ, A, S, q⟩ := h
  refine te_then (fa := f1) S q fun m1 H1 A1 a x s1 S1 r1 q1 => te_then (fa := f2) S1 q1 fun m2 H2 A2 b y s2 S2 r2 q2 => ?_
  obtain ⟨k, e, q3⟩ := ofOb q2
  refine ⟨W, _, m2, a, b, k, ⟨c.1.symm, c.2.2.symm⟩, (r1.mono S1 s2).u, r2.u, e, k, rfl, ?_⟩
  cases k with
  | false => exact OutG.flat S2 q3 rfl
  | true =>
    show TEv W z Wx true f3 σ H2 _
    refine te_then (fa := f3) S2 q3 fun m3 H3 A3 d y3 s3 S3 r3 q4 => ?_
    obtain ⟨k, e, q5⟩ := ofOb q4
    exact ⟨W, _, m3, b, d, k, ⟨c.1.symm, c.2.2.symm⟩, (r2.mono S2 s3).u, r3.u, e, OutG.flat S3 q5 rfl⟩
theorem noSet_l {o1 o2 : CmpOp} (h : noSet e3 = true) : lastMarks [o1, o2] [e2, e3] = false := by
  show behindInMarks o2 e3 = false
  exact noSet_m h
theorem ge_cmp2 (c : CtxOk X W) (hu : X.A.units + 66 < cLine) {o1 o2 : CmpOp} (h1 : GE X W z Wx true e1 f1) (h2 : GE X W z Wx true e2 f2) (h3 : GE X W z Wx true e3 f3) (hs : noSet e3 = true) : GE X W z Wx bb (.Compare e1 [o1, o2] [e2, e3] pos) (evCmp2 o1 o2 f1 f2 f3) :=
  pe_weak (pe_chain (op_cmp hu o1) (op_cmp hu o2) h1 h2 h3 (noSet_l hs)) fun _ _ _ q => cmp2_w c q
theorem gt_cmp2 (c : CtxOk X W) (hu : X.A.units + 66 < cLine) {o1 o2 : CmpOp} (h1 : GE X W z Wx true e1 f1) (h2 : GE X W z Wx true e2 f2) (h3 : GE X W z Wx true e3 f3) (hs : noSet e3 = true) : GT X W z Wx (.Compare e1 [o1, o2] [e2, e3] pos) (fun ρ => tst (evCmp2 o1 o2 f1 f2 f3 ρ)) :=
  pt_weak (pt_chain (op_cmp hu o1) (op_cmp hu o2) h1 h2 h3 (noSet_l hs)) fun _ _ _ q => cmp2_w c (tst_w (bb := true) q)
/-! ### not, and, or, if -/
def evNot (f : Env → M D) : Env → M D := fun ρ => (f ρ).bind fun x => ofO (notD x)
def evAnd (f1 f2 : Env → M D) : Env → M D := fun ρ => (f1 ρ).bind fun x => (ofO (asBl x)).bind fun c => if c then f2 ρ else M.pure (.bl false)
def evOr (f1 f2 : Env → M D) : Env → M D := fun ρ => (f1 ρ).bind fun x => (ofO (asBl x)).bind fun c => if c then M.pure (.bl true) else f2 ρ
def evIf (f1 f2 f3 : Env → M D) : Env → M D := fun ρ => (f1 ρ).bind fun x => (ofO (asBl x)).bind fun c => if c then f2 ρ else f3 ρ
theorem ge_not (h : GE X W z Wx true e f) : GE X W z Wx bb (.UnaryOp .Not e pos) (evNot f) := pe_weak (pe_not h) fun σ H Q ⟨m, ow, ρ, A, S, q⟩ => by
  refine te_then (fa := f) S q fun m1 H1 A1 a x s1 S1 r1 q1 => ?_
  obtain ⟨d, e, q2⟩ := ofO_out q1
  cases a <;> cases e
  exact ⟨_, r1.bl', OutG.flat S1 q2 rfl⟩
theorem ge_neg (h : GE X W z Wx true e f) : GE X W z Wx bb (.UnaryOp .USub e pos) (fun ρ => (f ρ).bind fun x => ofO (negD x)) := pe_weak (pe_un un_neg h) fun σ H Q ⟨m, ow, ρ, A, S, q⟩ => by
  refine te_then (fa := f) S q fun m1 H1 A1 a x s1 S1 r1 q1 => ?_
  obtain ⟨d, e, q2⟩ := ofO_out q1
  cases a <;> cases e
  exact ⟨_, r1.u.int, OutG.flat S1 q2 rfl⟩
theorem asBl_bind {x : D} {α : Type} {g : Bool → M α} {β : Type} {rp : Rp α β} {Q : β → Hp → Prop} (q : OutG W z Wx rp m ow ρ σ H Q ((ofO (asBl x)).bind g A)) : ∃ c, x = .bl c ∧ OutG W z Wx rp m ow ρ σ H Q (g c A) := by
  obtain ⟨c, e, q⟩ := ofOb q
  exact ⟨c, asBl_some e, q⟩
theorem ge_and {rest : List Expr} (h1 : GE X W z Wx true e1 f1) (h2 : GE X W z Wx bb (.BoolOp .And (e2 :: rest) pos) f2) : GE X W z Wx bb (.BoolOp .And (e1 :: e2 :: rest) pos) (evAnd f1 f2) := pe_weak (pe_and h1 h2) fun σ H Q ⟨m, ow, ρ, A, S, q⟩ => by
  refine te_then (fa := f1) S q fun m1 H1 A1 a x s1 S1 r1 q1 => ?_
  obtain ⟨c, rfl, q2⟩ := asBl_bind q1
  refine ⟨c, r1.bl', ?_⟩
  cases c with
  | true => exact ⟨_, _, _, _, S1, q2⟩
  | false => exact OutG.flat S1 q2 rfl
theorem ge_or {rest : List Expr} (h1 : GE X W z Wx true e1 f1) (h2 : GE X W z Wx bb (.BoolOp .Or (e2 :: rest) pos) f2) : GE X W z Wx bb (.BoolOp .Or (e1 :: e2 :: rest) pos) (evOr f1 f2) := pe_weak (pe_or h1 h2) fun σ H Q ⟨m, ow, ρ, A, S, q⟩ => by
  refine te_then (fa := f1) S q fun m1 H1 A1 a x s1 S1 r1 q1 => ?_
  obtain ⟨c, rfl, q2⟩ := asBl_bind q1
  refine ⟨c, r1.bl', ?_⟩
  cases c with
  | true => exact OutG.flat S1 q2 rfl
  | false => exact ⟨_, _, _, _, S1, q2⟩
/-- a test's reading, by what it says -/
theorem tst_then {α β : Type} {rp : Rp α β} {g : Bool → M α} {Q : β → Hp → Prop} {P : Bool → Hp → Prop} (S : SRel W z m ow ρ A σ H) (h : OutG W z Wx rp m ow ρ σ H Q (((f ρ).bind fun x => (ofO (asBl x)).bind g) A))
    (hk : ∀ m' H' A' c, Sm m H m' H' → SRel W z m' ow ρ A' σ H' → OutG W z Wx rp m' ow ρ σ H' Q (g c A') → P c H') : TG W z Wx RpB (fun ρ => tst (f ρ)) σ H P := by
  have e : ((f ρ).bind fun x => (ofO (asBl x)).bind g) = (tst (f ρ)).bind g := by
    unfold tst
    rw [M.bind_assoc]
  rw [e] at h
  exact tg_then (fa := fun ρ => tst (f ρ)) S h fun m1 H1 A1 c v s1 S1 r1 q1 => by
    have r1 : c = v := r1
    subst r1
    exact hk m1 H1 A1 c s1 S1 q1
theorem tst_not : (fun ρ => tst (evNot f ρ)) = fun ρ => (f ρ).bind fun x => (ofO (asBl x)).bind fun c => M.pure (!c) := by
  funext ρ
  unfold tst evNot
  rw [M.bind_assoc]
  congr
  funext x
  cases x <;> rfl
theorem gt_not (h : GT X W z Wx e (fun ρ => tst (f ρ))) : GT X W z Wx (.UnaryOp .Not e pos) (fun ρ => tst (evNot f ρ)) := pt_weak (pt_not h) fun σ H Q q => by
  rw [tst_not] at q
  obtain ⟨m, ow, ρ, A, S, q⟩ := q
  exact tst_then (f := f) S q fun m1 H1 A1 c s1 S1 q1 => OutG.now S1 q1 rfl
theorem ge_ite (h1 : GT X W z Wx e1 (fun ρ => tst (f1 ρ))) (h2 : GE X W z Wx bb e2 f2) (h3 : GE X W z Wx bb e3 f3) : GE X W z Wx bb (.IfExp e1 e2 e3 pos) (evIf f1 f2 f3) := pe_weak (pe_ifExp h1 h2 h3) fun σ H Q ⟨m, ow, ρ, A, S, q⟩ => by
  refine tst_then (f := f1) S q fun m1 H1 A1 c s1 S1 q1 => ?_
  cases c with
  | true => exact ⟨_, _, _, _, S1, q1⟩
  | false => exact ⟨_, _, _, _, S1, q1⟩
theorem tst_and : (fun ρ => tst (evAnd f1 f2 ρ)) = fun ρ => (f1 ρ).bind fun x => (ofO (asBl x)).bind fun c => if c then tst (f2 ρ) else M.pure false := by
  funext ρ
  unfold tst evAnd
  rw [M.bind_assoc]
  congr
  funext x
  rw [M.bind_assoc]
  congr
  funext c
  cases c <;> rfl
theorem tst_or : (fun ρ => tst (evOr f1 f2 ρ)) = fun ρ => (f1 ρ).bind fun x => (ofO (asBl x)).bind fun c => if c then M.pure true else tst (f2 ρ) := by
  funext ρ
  unfold tst evOr
  rw [M.bind_assoc]
  congr
  funext x
  rw [M.bind_assoc]
  congr
  funext c
  cases c <;> rfl
abbrev GW (X : Cx) (W : Wd) (z : En) (Wx : WX) (e : Expr) (f : Env → M Bool) : Prop := PW X e (TG W z Wx RpB f)
theorem pw_weak {t t' : TT} (h : PW X e t) (w : ∀ σ H Q, t' σ H Q → t σ H Q) : PW X e t' := ⟨fun wh pins s σ H Q I q => h.run wh pins s σ H Q I (w σ H Q q)⟩
theorem gw_and1 (h : GT X W z Wx e (fun ρ => tst (f ρ))) : GW X W z Wx (.BoolOp .And [e] pos) (fun ρ => tst (f ρ)) := pw_and1 h
theorem gw_or1 (h : GT X W z Wx e (fun ρ => tst (f ρ))) : GW X W z Wx (.BoolOp .Or [e] pos) (fun ρ => tst (f ρ)) := pw_or1 h
theorem gw_and {rest : List Expr} (h1 : GT X W z Wx e1 (fun ρ => tst (f1 ρ))) (h2 : GW X W z Wx (.BoolOp .And (e2 :: rest) pos) (fun ρ => tst (f2 ρ))) : GW X W z Wx (.BoolOp .And (e1 :: e2 :: rest) pos) (fun ρ => tst (evAnd f1 f2 ρ)) :=
  pw_weak (pw_and h1 h2) fun σ H Q q => by
    rw [tst_and] at q
    obtain ⟨m, ow, ρ, A, S, q⟩ := q
    refine tst_then (f := f1) S q fun m1 H1 A1 c s1 S1 q1 => ?_
    cases c with
    | true => exact ⟨_, _, _, _, S1, q1⟩
    | false => exact OutG.now S1 q1 rfl
theorem gw_or {rest : List Expr} (h1 : GT X W z Wx e1 (fun ρ => tst (f1 ρ))) (h2 : GW X W z Wx (.BoolOp .Or (e2 :: rest) pos) (fun ρ => tst (f2 ρ))) : GW X W z Wx (.BoolOp .Or (e1 :: e2 :: rest) pos) (fun ρ => tst (evOr f1 f2 ρ)) :=
  pw_weak (pw_or h1 h2) fun σ H Q q => by
    rw [tst_or] at q
    obtain ⟨m, ow, ρ, A, S, q⟩ := q
    refine tst_then (f := f1) S q fun m1 H1 A1 c s1 S1 q1 => ?_
    cases c with
    | true => exact OutG.now S1 q1 rfl
    | false => exact ⟨_, _, _, _, S1, q1⟩
end
end Ev
end
section
set_option maxHeartbeats 2000000
namespace Ev
open PySem PySem.Spec PyProof.Rows L2
section
variable {X : Cx} {W : Wd} {z : En} {Wx : WX} {m m' : List Addr} {ow : Ow} {ρ : Env} {A A' : AH} {σ : L2.St} {H H' : Hp} {bb : Bool} {e e1 e2 e3 : Expr} {f f1 f2 f3 : Env → M D} {fl : Env → M (List D)} {es : List Expr} {pos p2 : Pos}
theorem RepX.mono {b d v} (S : SRel W z m ow ρ A σ H) (s : Sm m H m' H') (h : RepX b W (muOf z.mu m ow) m H d v) : RepX b W (muOf z.mu m' ow) m' H' d v := by
  cases b
  · exact Rep.mono s.le S.ok s.pre h
  · exact RepB.mono S s h
theorem RpsX.mono {b} (S : SRel W z m ow ρ A σ H) (s : Sm m H m' H') : ∀ {ds vs}, RpsX b W (muOf z.mu m ow) m H ds vs → RpsX b W (muOf z.mu m' ow) m' H' ds vs
  | [], _, h => h
  | _ :: _, _, ⟨v, r, e, h1, h2⟩ => ⟨v, r, e, RepX.mono S s h1, RpsX.mono S s h2⟩
def nst : Expr → Bool
  | .Starred _ _ => false
  | _ => true
theorem nst_eq {E : PySem.Env} (h : nst e = true) : starEach (e :: es) E = (false, eval e E) :: starEach es E := by
  cases e <;> first | rfl | cases h
theorem ga_nil {b : Bool} : GA X W z Wx b [] (fun _ => M.pure []) := pa_weak pa_nil fun σ H Q ⟨m, ow, ρ, A, S, q⟩ => OutG.now S q rfl
theorem ga_cons {b : Bool} (h : GE X W z Wx b e f) (h2 : GA X W z Wx b es fl) (hn : nst e = true) : GA X W z Wx b (e :: es) (fun ρ => (f ρ).bind fun x => (fl ρ).bind fun t => M.pure (x :: t)) :=
  pa_weak (pa_cons h h2 (nst_eq hn)) fun σ H Q ⟨m, ow, ρ, A, S, q⟩ => by
    refine tg_then (fa := f) S q fun m1 H1 A1 x v s1 S1 r1 q1 => tg_then (fa := fl) S1 q1 fun m2 H2 A2 t vs s2 S2 r2 q2 => ?_
    exact OutG.now S2 q2 ⟨v, vs, rfl, r1.mono S1 s2, r2⟩
theorem ga_star {b : Bool} (c : CtxOk X W) (h : GE X W z Wx true e f) (h2 : GA X W z Wx b es fl) : GA X W z Wx b (.Starred e pos :: es) (fun ρ => (f ρ).bind fun x => (ofO (seqOf x)).bind fun l => (fl ρ).bind fun t => M.pure (l ++ t)) :=
  pa_weak (StX.pa_star h h2) fun σ H Q ⟨m, ow, ρ, A, S, q⟩ => by
    refine te_then (fa := f) S q fun m1 H1 A1 x v s1 S1 r1 q1 => ?_
    obtain ⟨l, el, q1⟩ := ofOb q1
    obtain ⟨p, vs, rfl, sq, rs⟩ := r1.u.seq el
    refine ⟨p, vs, rfl, ?_, ?_⟩
    · rw [c.1]; exact sq.symm
    · refine tg_then (fa := fl) S1 q1 fun m2 H2 A2 t us s2 S2 r2 q2 => ?_
      exact OutG.now S2 q2 ((rpsX_of (Reps.mono s2.le S1.ok s2.pre rs)).append r2)
/-! ### displays -/
theorem ge_tup {x1} (h : GA X W z Wx false es fl) : GE X W z Wx bb (.Tuple es x1 pos) (fun ρ => (fl ρ).bind fun l => (grd (decide (l.length ≤ sizeLine))).bind fun _ => M.pure (.tup l)) :=
  pe_weak (pe_tupN h) fun σ H Q ⟨m, ow, ρ, A, S, q⟩ => by
    refine tg_then (fa := fl) S q fun m1 H1 A1 t vs s1 S1 r1 q1 => ?_
    obtain ⟨c, q2⟩ := grdb q1
    have c := of_decide_eq_true c
    have r := rpsX_f r1
    exact ⟨by rw [← r.length]; exact c, fun p o hp ho => OutG.laid S1 q2 hp (rep_tup S1 hp ho r)⟩
theorem ge_lst (h : GA X W z Wx false es fl) : GE X W z Wx bb (.List es pos) (fun ρ => (fl ρ).bind fun l => (grd (decide (l.length ≤ sizeLine))).bind fun _ => M.pure (.lst l)) :=
  pe_weak (pe_lst h) fun σ H Q ⟨m, ow, ρ, A, S, q⟩ => by
    refine tg_then (fa := fl) S q fun m1 H1 A1 t vs s1 S1 r1 q1 => ?_
    obtain ⟨c, q2⟩ := grdb q1
    have c := of_decide_eq_true c
    have r := rpsX_f r1
    exact ⟨by rw [← r.length]; exact c, fun p hp => OutG.laid S1 q2 hp (rep_lst S1 hp r)⟩
/-- a new heap place -/
theorem Sm.newp {m H p o} (h : H p = none) : Sm m H (m ++ [p]) (upd H p o) where
  pre := List.prefix_append _ _
  keep := fun a u e _ => by rw [upd_ne (ne_of_none e h)]; exact e
  live := fun a u e => ⟨u, by rw [upd_ne (ne_of_none e h)]; exact e⟩
  new := fun q hq n => by
    rcases List.mem_append.mp hq with hq | hq
    · exact absurd hq n
    · rw [List.mem_singleton.mp hq]; exact h
theorem HRel.newp (S : SRel W z m ow ρ A σ H) {p o ao} (h : H p = none) (r : AoR W (muOf z.mu (m ++ [p]) ow) (m ++ [p]) (upd H p o) p ao) : HRel W (muOf z.mu (m ++ [p]) ow) (m ++ [p]) (A ++ [ao]) (upd H p o) := by
  have s : Sm m H (m ++ [p]) (upd H p o) := Sm.newp h
  have inm : ∀ q ∈ m, q ≠ p := fun q hq e => by
    obtain ⟨i, ob, h1, h2, h3⟩ := S.hp.at hq
    obtain ⟨u, h4, _⟩ := h3.good
    rw [e, h] at h4
    cases h4
  have hl := S.hp.len
  refine ⟨by simp [hl], fun i j q hi hj => ?_, fun i q ob hi ho => ?_, fun t P q e => by
    obtain ⟨a, b⟩ := S.hp.tb t P q e
    exact ⟨by rw [List.getElem?_append_left (List.getElem?_eq_some_iff.mp a).1]; exact a, by rw [List.getElem?_append_left (List.getElem?_eq_some_iff.mp b).1]; exact b⟩⟩
  · rcases Nat.lt_or_ge i m.length with li | li
    · rw [List.getElem?_append_left li] at hi
      rcases Nat.lt_or_ge j m.length with lj | lj
      · rw [List.getElem?_append_left lj] at hj
        exact S.hp.inj i j q hi hj
      · rw [List.getElem?_append_right lj] at hj
        have : q = p := List.mem_singleton.mp (List.mem_of_getElem? hj)
        exact absurd this (inm q (List.mem_of_getElem? hi))
    · rw [List.getElem?_append_right li] at hi
      have e1 : q = p := List.mem_singleton.mp (List.mem_of_getElem? hi)
      rcases Nat.lt_or_ge j m.length with lj | lj
      · rw [List.getElem?_append_left lj] at hj
        exact absurd e1 (inm q (List.mem_of_getElem? hj))
      · rw [List.getElem?_append_right lj] at hj
        have a1 := (List.getElem?_eq_some_iff.mp hi).1
        have a2 := (List.getElem?_eq_some_iff.mp hj).1
        simp only [List.length_cons, List.length_nil] at a1 a2
        omega
  · rcases Nat.lt_or_ge i m.length with li | li
    · rw [List.getElem?_append_left li] at hi
      rw [List.getElem?_append_left (by omega)] at ho
      exact (S.hp.obj i q ob hi ho).mono s.le S.ok s.pre (upd_ne (inm q (List.mem_of_getElem? hi)))
    · rw [List.getElem?_append_right li] at hi
      have e1 : q = p := List.mem_singleton.mp (List.mem_of_getElem? hi)
      have a1 := (List.getElem?_eq_some_iff.mp hi).1
      simp only [List.length_cons, List.length_nil] at a1
      have e2 : i = A.length := by omega
      subst e2
      rw [List.getElem?_append_right (Nat.le_refl _)] at ho
      simp at ho
      subst ho
      rw [e1]
      exact r
theorem ge_newl (h : GA X W z Wx false es fl) : GE X W z Wx bb (.List es pos) (fun ρ => (fl ρ).bind fun l => (grd (decide (l.length ≤ sizeLine))).bind fun _ => fun A => .ok (.ref A.length) (A ++ [.lst l])) :=
  pe_weak (pe_lst h) fun σ H Q ⟨m, ow, ρ, A, S, q⟩ => by
    refine tg_then (fa := fl) S q fun m1 H1 A1 t vs s1 S1 r1 q1 => ?_
    obtain ⟨c, q2⟩ := grdb q1
    have c := of_decide_eq_true c
    have r := rpsX_f r1
    refine ⟨by rw [← r.length]; exact c, fun p hp => ?_⟩
    have s : Sm m1 H1 (m1 ++ [p]) (upd H1 p (.lst vs)) := Sm.newp hp
    refine q2 (m1 ++ [p]) _ _ s (S1.step s (HRel.newp S1 hp ⟨vs, upd_same, r.mono s.le S1.ok s.pre⟩)) (repx ⟨p, rfl, ?_⟩)
    rw [← S1.hp.len]
    simp
/-! ### subscripts -/
def plainIx : Expr → Bool
  | .Slice _ _ _ _ => false
  | _ => true
theorem plainIx_ok (h : plainIx e = true) : PlainIx e := by
  cases e <;> first | (intro o i; rfl) | cases h
/-- a dict's item -/
def rIxD (X : Cx) : R2 := fun x y H Q => ∃ (W : Wd) (mu : Addr → Prop) (m : List Addr) (kvs : List (D × D)) (k v : D), (W.K = X.K ∧ W.w = X.w) ∧ RepU W mu m H (.dct kvs) x ∧ RepU W mu m H k y ∧ okK k kvs = true ∧ findK k kvs = some v ∧ ∀ y', Rep W mu m H v y' → Q y' H
theorem ix_dct (hu : X.A.units + 66 < cLine) : IxR X (rIxD X) := by
  intro value slice pins s σ H x y v u Q I rx ry ⟨W, mu, m, kvs, k, d, c, r1, r2, ok, hf, q⟩ hs
  obtain ⟨p, rfl, dd⟩ := r1.dict
  cases rx
  exact tail_any (dd.typeIs I).1 slot_dict_getitem.lookup (dd_getItem hu I c.1 c.2 dd ok (r2.rep (key_isK (okK_key ok))) ry hf fun y w' s' I' ry' rd => ⟨y, H, I', ry', q y rd⟩) hs
theorem reps_at {mu} {l : List D} {vs : List V} (r : Reps W mu m H l vs) {i : Int} {d : D} (h : atI l i = some d) : ∃ v, atI vs i = some v ∧ Rep W mu m H d v := by
  unfold atI at h ⊢
  rw [r.length] at h
  cases e : ixN vs.length i with
  | none => rw [e] at h; cases h
  | some j =>
    rw [e] at h
    exact r.get h
theorem ge_idx (c : CtxOk X W) (hu : X.A.units + 66 < cLine) (h1 : GE X W z Wx true e1 f1) (h2 : GE X W z Wx true e2 f2) (hs : plainIx e2 = true) :
    GE X W z Wx bb (.Subscript e1 e2 pos) (fun ρ => (f1 ρ).bind fun x => (f2 ρ).bind fun y => fun A => ofO (idxD (deref A x) y) A) :=
  pe_weak (pe_ix (ix_seq.or (ix_dct hu)) h1 h2 (plainIx_ok hs)) fun σ H Q ⟨m, ow, ρ, A, S, q⟩ => by
    refine te_then (fa := f1) S q fun m1 H1 A1 x v s1 S1 r1 q1 => te_then (fa := f2) S1 q1 fun m2 H2 A2 y u s2 S2 r2 q2 => ?_
    have rx := (r1.mono S1 s2).der S2
    have ry := r2.u
    obtain ⟨d, ed, q3⟩ := ofO_out q2
    revert ed rx
    generalize deref A2 x = x'
    intro rx ed
    unfold idxD at ed
    split at ed
    · obtain ⟨p, vs, rfl, h1, h2⟩ := rx.tuple
      obtain ⟨w, e1, e2⟩ := reps_at h2 ed
      exact .inl (.inr (.inl ⟨p, vs, _, w, rfl, ry.int, by rw [c.1]; exact h1.t, e1, OutG.flat S2 q3 e2⟩))
    · obtain ⟨p, vs, rfl, h1, h2⟩ := rx.list
      obtain ⟨w, e1, e2⟩ := reps_at h2 ed
      exact .inl (.inl ⟨p, vs, _, w, rfl, ry.int, SqL.of h1, e1, OutG.flat S2 q3 e2⟩)
    · obtain ⟨p, vs, rfl, h1, h2⟩ := rx.seq rfl
      obtain ⟨w, e1, e2⟩ := reps_at h2 ed
      rcases h1 with h1 | h1
      · exact .inl (.inl ⟨p, vs, _, w, rfl, ry.int, by rw [c.1]; exact h1, e1, OutG.flat S2 q3 e2⟩)
      · exact .inl (.inr (.inl ⟨p, vs, _, w, rfl, ry.int, by rw [c.1]; exact h1, e1, OutG.flat S2 q3 e2⟩))
    · split at ed
      · rename_i ok
        exact .inr ⟨W, _, m2, _, _, d, ⟨c.1.symm, c.2.2.symm⟩, rx, ry, ok, ed, fun y' ry' => OutG.flat S2 q3 ry'⟩
      · cases ed
    · cases ed
/-! ### slices -/
abbrev GO (X : Cx) (W : Wd) (z : En) (Wx : WX) (e : Option Expr) (f : Env → M (Option Int)) : Prop := PO X e (TG W z Wx (fun _ _ _ a b => a = b) f)
theorem po_weak {e : Option Expr} {t t' : TO} (h : PO X e t) (w : ∀ σ H Q, t' σ H Q → t σ H Q) : PO X e t' := ⟨fun pins s σ H Q I q => h.run pins s σ H Q I (w σ H Q q)⟩
theorem go_none : GO X W z Wx none (fun _ => M.pure none) := po_weak po_none fun σ H Q ⟨m, ow, ρ, A, S, q⟩ => OutG.now S q rfl
theorem go_some (h : GE X W z Wx true e f) : GO X W z Wx (some e) (fun ρ => (f ρ).bind fun x => (ofO (asInt x)).bind fun i => M.pure (some i)) := po_weak (po_some h) fun σ H Q ⟨m, ow, ρ, A, S, q⟩ => by
  refine te_then (fa := f) S q fun m1 H1 A1 x v s1 S1 r1 q1 => ?_
  obtain ⟨i, ei, q2⟩ := ofOb q1
  cases x <;> cases ei
  exact ⟨_, r1.u.int, OutG.now S1 q2 rfl⟩
theorem reps_cut {mu} {l : List D} {vs : List V} (r : Reps W mu m H l vs) (lo hi : Option Int) : Reps W mu m H (cutD l lo hi) (cutV vs lo hi) := by
  unfold cutD cutV
  rw [r.length]
  exact (r.drop _).take _
theorem cut_whole {l : List D} {lo hi : Option Int} (h : HT.sIx l.length 0 lo = 0 ∧ HT.sIx l.length l.length hi = l.length) : cutD l lo hi = l := by
  unfold cutD
  rw [h.1, h.2]
  simp
theorem ge_sli (c : CtxOk X W) {lo hi : Option Expr} {fo fh : Env → M (Option Int)} (h1 : GE X W z Wx true e1 f1) (h2 : GO X W z Wx lo fo) (h3 : GO X W z Wx hi fh) :
    GE X W z Wx bb (.Subscript e1 (.Slice lo hi none p2) pos) (fun ρ => (f1 ρ).bind fun x => (fo ρ).bind fun l => (fh ρ).bind fun h => fun A => ofO (sliD (deref A x) l h) A) :=
  pe_weak (pe_slice (sl_list.or sl_tupN) h1 h2 h3) fun σ H Q ⟨m, ow, ρ, A, S, q⟩ => by
    refine te_then (fa := f1) S q fun m1 H1 A1 x v s1 S1 r1 q1 => tg_then (fa := fo) S1 q1 fun m2 H2 A2 l l' s2 S2 r2 q2 => tg_then (fa := fh) S2 q2 fun m3 H3 A3 h h' s3 S3 r3 q3 => ?_
    have r2 : l = l' := r2
    have r3 : h = h' := r3
    subst r2 r3
    have rx := ((r1.mono S1 s2).mono S2 s3).der S3
    obtain ⟨d, ed, q4⟩ := ofO_out q3
    revert ed rx
    generalize deref A3 x = x'
    intro rx ed
    unfold sliD at ed
    split at ed
    · obtain ⟨p, vs, rfl, h1, h2⟩ := rx.tuple
      cases ed
      refine .inr ⟨p, vs, rfl, by rw [c.1]; exact h1.t, fun hw => ?_, fun hw t o ht ho => OutG.laid S3 q4 ht (rep_tup S3 ht ho (reps_cut h2 l h))⟩
      rw [← h2.length] at hw
      rw [cut_whole hw] at q4
      exact OutG.flat S3 q4 ⟨p, vs, rfl, h1, h2⟩
    · obtain ⟨p, vs, rfl, h1, h2⟩ := rx.list
      cases ed
      exact .inl ⟨p, vs, rfl, SqL.of h1, fun t ht => OutG.laid S3 q4 ht (rep_lst S3 ht (reps_cut h2 l h))⟩
    · obtain ⟨p, vs, rfl, h1, h2⟩ := rx.seq rfl
      cases ed
      rcases rx with ⟨p', vs', a, b, r⟩ | ⟨l', p', vs', a, _⟩ | ⟨l', p', vs', a, _⟩
      · cases a
        exact .inl ⟨p, vs', rfl, by rw [c.1]; exact b.sq, fun t ht => OutG.laid S3 q4 ht (rep_lst S3 ht (reps_cut r l h))⟩
      · cases a
      · cases a
    · cases ed
end
end Ev
end
section
set_option maxHeartbeats 2000000
namespace Ev
open PySem PySem.Spec PyProof.Rows L2
open PySem.W (EachIs dataLt alike AllAlike Sortable)
/-- nothing, or one new object -/
def Ld (H H' : Hp) : Prop := H' = H ∨ ∃ p o, H p = none ∧ H' = upd H p o
def RpsU (W : Wd) (mu : Addr → Prop) (m : List Addr) (H : Hp) : List D → List V → Prop
  | [], vs => vs = []
  | d :: ds, vs => ∃ v r, vs = v :: r ∧ RepU W mu m H d v ∧ RpsU W mu m H ds r
/-- a built-in's rule, by deep values -/
def rO (X : Cx) (op : List D → Option D) : List V → Hp → VK → Prop := fun xs H Q => ∃ (W : Wd) (mu : Addr → Prop) (m : List Addr) (ds : List D) (d : D), (W.K = X.K ∧ W.w = X.w) ∧ MuOk mu H ∧ RpsU W mu m H ds xs ∧ op ds = some d ∧
  ∀ H' v, Ld H H' → Rep W mu m H' d v → Q v H'
section
variable {X : Cx} {W : Wd} {mu : Addr → Prop} {m : List Addr} {H : Hp} {Q : VK}
theorem le_upd {p o} (h : H p = none) : Le mu H mu (upd H p o) := ⟨fun a u e _ => by rw [upd_ne (ne_of_none e h)]; exact e, fun _ _ _ n => n⟩
theorem MuOk.new (ok : MuOk mu H) {p} (h : H p = none) : ¬ mu p := fun z => by
  obtain ⟨o, e, _⟩ := ok p z
  rw [h] at e
  cases e
theorem rep_lstU (ok : MuOk mu H) {p ds vs} (hp : H p = none) (r : Reps W mu m H ds vs) : Rep W mu m (upd H p (.lst vs)) (.lst ds) (.ref p) := ⟨p, vs, rfl, ⟨upd_same, ok.new hp⟩, r.mono (le_upd hp) ok ⟨[], by simp⟩⟩
theorem rep_tupU (ok : MuOk mu H) {p ds vs} {o : Obj} (hp : H p = none) (ho : o.dict = none) (r : Reps W mu m H ds vs) : Rep W mu m (upd H p (.frz o (.tup vs))) (.tup ds) (.ref p) := ⟨p, vs, rfl, .inl ⟨o, upd_same, ho⟩, r.mono (le_upd hp) ok ⟨[], by simp⟩⟩
theorem Ld.new {p o} (h : H p = none) : Ld H (upd H p o) := .inr ⟨p, o, h, rfl⟩
theorem rU1 {x : D} {xs : List V} (r : RpsU W mu m H [x] xs) : ∃ v, xs = [v] ∧ RepU W mu m H x v := by
  obtain ⟨v, t, rfl, h, h2⟩ := r
  cases h2
  exact ⟨v, rfl, h⟩
theorem rU2 {x y : D} {xs : List V} (r : RpsU W mu m H [x, y] xs) : ∃ v u, xs = [v, u] ∧ RepU W mu m H x v ∧ RepU W mu m H y u := by
  obtain ⟨v, t, rfl, h, h2⟩ := r
  obtain ⟨u, rfl, h3⟩ := rU1 h2
  exact ⟨v, u, rfl, h, h3⟩
theorem CallR.wk {f : Value} {r r' : List V → Hp → VK → Prop} (h : CallR X f r) (w : ∀ xs H Q, r' xs H Q → r xs H Q) : CallR X f r' := fun pins s σ H xs us Q I rs q => h pins s σ H xs us Q I rs (w _ _ _ q)
theorem reps_ints : ∀ {l : List D} {vs : List V} {ns : List Int}, ints? l = some ns → Reps W mu m H l vs → vs = ns.map V.int
  | [], _, _, h, r => by cases h; cases r; rfl
  | d :: l, _, ns, h, r => by
    obtain ⟨v, t, rfl, h1, h2⟩ := r
    cases d <;> first | (cases h; done) | skip
    rename_i i
    have h' : (ints? l).map (i :: ·) = some ns := h
    cases e : ints? l with
    | none => rw [e] at h'; cases h'
    | some ks =>
      rw [e] at h'
      cases h'
      cases h1
      rw [reps_ints e h2]
      rfl
theorem reps_bls : ∀ {l : List D} {vs : List V} {ns : List Bool}, bls? l = some ns → Reps W mu m H l vs → vs = ns.map V.bl
  | [], _, _, h, r => by cases h; cases r; rfl
  | d :: l, _, ns, h, r => by
    obtain ⟨v, t, rfl, h1, h2⟩ := r
    cases d <;> first | (cases h; done) | skip
    rename_i i
    have h' : (bls? l).map (i :: ·) = some ns := h
    cases e : bls? l with
    | none => rw [e] at h'; cases h'
    | some ks =>
      rw [e] at h'
      cases h'
      cases h1
      rw [reps_bls e h2]
      rfl
theorem crAbs : CallR X (.builtin "abs") (rO X bAbs) := CallR.wk call_abs fun xs H Q ⟨W, mu, m, ds, d, c, ok, r, hd, q⟩ => by
  unfold bAbs at hd
  split at hd <;> cases hd
  obtain ⟨v, rfl, rv⟩ := rU1 r
  exact ⟨_, congrArg (fun z => [z]) rv.int, q H _ (.inl rfl) rfl⟩
theorem crMax2 (hc : X.calm = true) : CallR X (.builtin "max") (rO X bMax2) := CallR.wk (call_max2 hc) fun xs H Q ⟨W, mu, m, ds, d, c, ok, r, hd, q⟩ => by
  unfold bMax2 at hd
  split at hd <;> cases hd
  obtain ⟨v, u, rfl, rv, ru⟩ := rU2 r
  exact ⟨_, _, by rw [rv.int, ru.int], q H _ (.inl rfl) rfl⟩
theorem crMin2 (hc : X.calm = true) : CallR X (.builtin "min") (rO X bMin2) := CallR.wk (call_min2 hc) fun xs H Q ⟨W, mu, m, ds, d, c, ok, r, hd, q⟩ => by
  unfold bMin2 at hd
  split at hd <;> cases hd
  obtain ⟨v, u, rfl, rv, ru⟩ := rU2 r
  exact ⟨_, _, by rw [rv.int, ru.int], q H _ (.inl rfl) rfl⟩
theorem foldl_max : ∀ {ns : List Int} {n : Int}, ns.foldl max n ∈ n :: ns ∧ ∀ y ∈ n :: ns, y ≤ ns.foldl max n
  | [], n => by simp
  | k :: ns, n => by
    obtain ⟨h1, h2⟩ := foldl_max (ns := ns) (n := max n k)
    have hm : max n k ≤ ns.foldl max (max n k) := h2 _ List.mem_cons_self
    refine ⟨?_, fun y hy => ?_⟩
    · rcases List.mem_cons.mp h1 with h | h
      · show ns.foldl max (max n k) ∈ _
        rw [h]
        rcases Int.le_total n k with q | q
        · rw [Int.max_eq_right q]; simp
        · rw [Int.max_eq_left q]; simp
      · exact List.mem_cons_of_mem _ (List.mem_cons_of_mem _ h)
    · show y ≤ ns.foldl max (max n k)
      rcases List.mem_cons.mp hy with rfl | hy
      · omega
      · rcases List.mem_cons.mp hy with rfl | hy
        · omega
        · exact h2 y (List.mem_cons_of_mem _ hy)
theorem foldl_min : ∀ {ns : List Int} {n : Int}, ns.foldl min n ∈ n :: ns ∧ ∀ y ∈ n :: ns, ns.foldl min n ≤ y
  | [], n => by simp
  | k :: ns, n => by
    obtain ⟨h1, h2⟩ := foldl_min (ns := ns) (n := min n k)
    have hm : ns.foldl min (min n k) ≤ min n k := h2 _ List.mem_cons_self
    refine ⟨?_, fun y hy => ?_⟩
    · rcases List.mem_cons.mp h1 with h | h
      · show ns.foldl min (min n k) ∈ _
        rw [h]
        rcases Int.le_total n k with q | q
        · rw [Int.min_eq_left q]; simp
        · rw [Int.min_eq_right q]; simp
      · exact List.mem_cons_of_mem _ (List.mem_cons_of_mem _ h)
    · show ns.foldl min (min n k) ≤ y
      rcases List.mem_cons.mp hy with rfl | hy
      · omega
      · rcases List.mem_cons.mp hy with rfl | hy
        · omega
        · exact h2 y (List.mem_cons_of_mem _ hy)
theorem crMax1 (hc : X.calm = true) : CallR X (.builtin "max") (rO X bMax1) := CallR.wk (cr_max hc) fun xs H Q ⟨W, mu, m, ds, d, c, ok, r, hd, q⟩ => by
  unfold bMax1 at hd
  split at hd <;> try cases hd
  rename_i l
  split at hd <;> cases hd
  rename_i n ns e
  obtain ⟨v, rfl, rv⟩ := rU1 r
  obtain ⟨p, vs, rfl, h1, h2⟩ := rv.list
  rw [reps_ints e h2] at h1
  refine ⟨p, n :: ns, rfl, SqL.of h1, Nat.succ_pos _, fun k h3 h4 => ?_⟩
  obtain ⟨f1, f2⟩ := foldl_max (ns := ns) (n := n)
  have : k = ns.foldl max n := Int.le_antisymm (f2 k h3) (h4 _ f1)
  rw [this]
  exact q H _ (.inl rfl) rfl
theorem crMin1 (hc : X.calm = true) : CallR X (.builtin "min") (rO X bMin1) := CallR.wk (cr_min hc) fun xs H Q ⟨W, mu, m, ds, d, c, ok, r, hd, q⟩ => by
  unfold bMin1 at hd
  split at hd <;> try cases hd
  rename_i l
  split at hd <;> cases hd
  rename_i n ns e
  obtain ⟨v, rfl, rv⟩ := rU1 r
  obtain ⟨p, vs, rfl, h1, h2⟩ := rv.list
  rw [reps_ints e h2] at h1
  refine ⟨p, n :: ns, rfl, SqL.of h1, Nat.succ_pos _, fun k h3 h4 => ?_⟩
  obtain ⟨f1, f2⟩ := foldl_min (ns := ns) (n := n)
  have : k = ns.foldl min n := Int.le_antisymm (h4 _ f1) (f2 k h3)
  rw [this]
  exact q H _ (.inl rfl) rfl
theorem crSum (hc : X.calm = true) : CallR X (.builtin "sum") (rO X bSum) := CallR.wk (cr_sum hc) fun xs H Q ⟨W, mu, m, ds, d, c, ok, r, hd, q⟩ => by
  unfold bSum at hd
  split at hd <;> try cases hd
  split at hd <;> cases hd
  rename_i e
  obtain ⟨v, rfl, rv⟩ := rU1 r
  obtain ⟨p, vs, rfl, h1, h2⟩ := rv.list
  rw [reps_ints e h2] at h1
  exact ⟨p, _, rfl, SqL.of h1, q H _ (.inl rfl) rfl⟩
theorem crAll (hc : X.calm = true) : CallR X (.builtin "all") (rO X bAll) := CallR.wk (cr_all hc) fun xs H Q ⟨W, mu, m, ds, d, c, ok, r, hd, q⟩ => by
  unfold bAll at hd
  split at hd <;> try cases hd
  split at hd <;> cases hd
  rename_i e
  obtain ⟨v, rfl, rv⟩ := rU1 r
  obtain ⟨p, vs, rfl, h1, h2⟩ := rv.list
  rw [reps_bls e h2] at h1
  exact ⟨p, _, rfl, SqL.of h1, q H _ (.inl rfl) rfl⟩
theorem crAny (hc : X.calm = true) : CallR X (.builtin "any") (rO X bAny) := CallR.wk (cr_any hc) fun xs H Q ⟨W, mu, m, ds, d, c, ok, r, hd, q⟩ => by
  unfold bAny at hd
  split at hd <;> try cases hd
  split at hd <;> cases hd
  rename_i e
  obtain ⟨v, rfl, rv⟩ := rU1 r
  obtain ⟨p, vs, rfl, h1, h2⟩ := rv.list
  rw [reps_bls e h2] at h1
  exact ⟨p, _, rfl, SqL.of h1, q H _ (.inl rfl) rfl⟩
theorem RepU.flst {l v} (h : RepU W mu m H (.flst l) v) : ∃ p vs, v = .ref p ∧ SqL W.K H p vs ∧ Reps W mu m H l vs := by
  rcases h with ⟨p', vs', a, b, r⟩ | ⟨l', p', vs', a, _⟩ | ⟨l', p', vs', a, _⟩
  · exact ⟨p', vs', a, b.sq, r⟩
  · cases a
  · cases a
theorem crTuple : CallR X (.type "tuple") (rO X bTuple) := CallR.wk call_tupleN fun xs H Q ⟨W, mu, m, ds, d, c, ok, r, hd, q⟩ => by
  unfold bTuple at hd
  split at hd <;> try cases hd
  rename_i x
  split at hd <;> cases hd
  rename_i l e
  obtain ⟨v, rfl, rv⟩ := rU1 r
  cases x with
  | tup l' =>
    cases e
    obtain ⟨p, vs, rfl, h1, h2⟩ := rv.tuple
    exact ⟨p, vs, rfl, .inr ⟨by rw [← c.1]; exact h1.t, q H _ (.inl rfl) ⟨p, vs, rfl, h1, h2⟩⟩⟩
  | lst l' =>
    cases e
    obtain ⟨p, vs, rfl, h1, h2⟩ := rv.list
    exact ⟨p, vs, rfl, .inl ⟨SqL.of h1, fun t o ht ho => q _ _ (Ld.new ht) (rep_tupU ok ht ho h2)⟩⟩
  | flst l' =>
    cases e
    obtain ⟨p, vs, rfl, h1, h2⟩ := rv.flst
    exact ⟨p, vs, rfl, .inl ⟨by rw [← c.1]; exact h1, fun t o ht ho => q _ _ (Ld.new ht) (rep_tupU ok ht ho h2)⟩⟩
  | _ => cases e
theorem crList : CallR X (.type "list") (rO X bList) := CallR.wk call_list_of fun xs H Q ⟨W, mu, m, ds, d, c, ok, r, hd, q⟩ => by
  unfold bList at hd
  split at hd <;> try cases hd
  rename_i x
  split at hd <;> cases hd
  rename_i l e
  obtain ⟨v, rfl, rv⟩ := rU1 r
  obtain ⟨p, vs, rfl, h1, h2⟩ := rv.seq e
  exact ⟨p, vs, rfl, by rw [← c.1]; exact h1, fun t ht => q _ _ (Ld.new ht) (rep_lstU ok ht h2)⟩
theorem crInt : CallR X (.type "int") (rO X bInt) := CallR.wk call_int1 fun xs H Q ⟨W, mu, m, ds, d, c, ok, r, hd, q⟩ => by
  unfold bInt at hd
  split at hd <;> cases hd
  · obtain ⟨v, rfl, rv⟩ := rU1 r
    exact .inl ⟨_, congrArg (fun z => [z]) rv.int, q H _ (.inl rfl) rfl⟩
  · obtain ⟨v, rfl, rv⟩ := rU1 r
    exact .inr ⟨_, congrArg (fun z => [z]) rv.bl, q H _ (.inl rfl) rfl⟩
theorem crBool : CallR X (.type "bool") (rO X bBool) := CallR.wk call_bool1 fun xs H Q ⟨W, mu, m, ds, d, c, ok, r, hd, q⟩ => by
  unfold bBool at hd
  split at hd <;> cases hd
  obtain ⟨v, rfl, rv⟩ := rU1 r
  exact .inr ⟨_, congrArg (fun z => [z]) rv.bl, q H _ (.inl rfl) rfl⟩
theorem crStr : CallR X (.type "str") (rO X bStr) := CallR.wk call_str_int fun xs H Q ⟨W, mu, m, ds, d, c, ok, r, hd, q⟩ => by
  unfold bStr at hd
  split at hd <;> try cases hd
  split at hd <;> cases hd
  rename_i hl
  obtain ⟨v, rfl, rv⟩ := rU1 r
  exact ⟨_, congrArg (fun z => [z]) rv.int, hl, q H _ (.inl rfl) rfl⟩
theorem crDivmod : CallR X (.builtin "divmod") (rO X bDivmod) := CallR.wk call_divmodN fun xs H Q ⟨W, mu, m, ds, d, c, ok, r, hd, q⟩ => by
  unfold bDivmod at hd
  split at hd <;> try cases hd
  split at hd <;> cases hd
  rename_i hl
  obtain ⟨v, u, rfl, rv, ru⟩ := rU2 r
  refine ⟨_, _, by rw [rv.int, ru.int], hl, fun p o hp ho => q _ _ (Ld.new hp) ?_⟩
  exact rep_tupU ok hp ho (ds := [.int _, .int _]) ⟨_, _, rfl, rfl, _, _, rfl, rfl, rfl⟩
theorem crLen (hu : X.A.units + 66 < cLine) : CallR X (.builtin "len") (rO X bLen) := by
  intro pins s σ H xs us Q I rs ⟨W, mu, m, ds, d, c, ok, r, hd, q⟩
  unfold bLen at hd
  split at hd <;> try cases hd
  rename_i x
  split at hd <;> cases hd
  rename_i n e
  obtain ⟨v, rfl, rv⟩ := rU1 r
  have sq : ∀ l, seqOf x = some l → n = l.length → wpAny (model X.prog X.w) X.A (call (.builtin "len") us) (EP X pins σ Q) X.xe s := fun l el en => by
    obtain ⟨p, vs, rfl, h1, h2⟩ := rv.seq el
    subst en
    exact call_len_seq pins s σ H _ us Q I rs ⟨p, vs, rfl, by rw [← c.1]; exact h1, by rw [← h2.length]; exact q H _ (.inl rfl) rfl⟩
  cases x with
  | tup l' => cases e; exact sq _ rfl rfl
  | lst l' => cases e; exact sq _ rfl rfl
  | flst l' => cases e; exact sq _ rfl rfl
  | str x =>
    have e : (if x.length ≤ sizeLine then some x.length else none) = some n := e
    split at e <;> cases e
    rename_i hz
    refine call_len_str pins s σ H _ us Q I rs ⟨x, congrArg (fun z => [z]) rv.str, hz, q H _ (.inl rfl) rfl⟩
  | dct kvs =>
    cases e
    obtain ⟨p, rfl, dd⟩ := rv.dict
    obtain ⟨u, rfl, ru⟩ := vals1 rs
    cases ru
    obtain ⟨_, _, hds⟩ := dd.typeIs I
    have l63 := line63
    obtain ⟨es, h, kv, re⟩ := id dd
    have hz := kv.len
    rcases kv.hom with t | t
    · obtain ⟨zs, dx, px⟩ := dd.tups I c.1 c.2 t
      refine call_len_dictH hds dx (by rw [px.length]; omega) ?_
      rw [px.length]
      exact ⟨.int _, H, I.tok _, ⟨_, rfl⟩, q H _ (.inl rfl) rfl⟩
    · obtain ⟨zs, dx, px⟩ := dd.flats I c.2 t
      have hl : zs.length = kvs.length := by
        have := congrArg List.length px.keys
        simpa using this
      refine call_len_dict hds dx (by rw [hl]; omega) ?_
      rw [hl]
      exact ⟨.int _, H, I.tok _, ⟨_, rfl⟩, q H _ (.inl rfl) rfl⟩
  | _ => cases e
theorem crRepr (hu : X.A.units + 66 < cLine) (hg : X.A.guards = some []) : CallR X (.builtin "repr") (rO X bRepr) := by
  intro pins s σ H xs us Q I rs ⟨W, mu, m, ds, d, c, ok, r, hd, q⟩
  unfold bRepr at hd
  split at hd <;> try cases hd
  rename_i x
  split at hd <;> cases hd
  rename_i hc
  simp only [Bool.and_eq_true, decide_eq_true_eq] at hc
  obtain ⟨⟨hok, hs⟩, hz⟩ := hc
  obtain ⟨v, rfl, rv⟩ := rU1 r
  obtain ⟨u, rfl, ru⟩ := vals1 rs
  have hdep := ok_dep hok
  have hl := ok_lay hok
  obtain ⟨as, rd⟩ := Dp.reads I x.py v u (by rw [← c.1]; exact rv.dp hl) ru
  have fin : ∀ (z : Str) (h' : Heap) (t k : Nat), z = x.py.shown → (∀ b o, s.heap.get? b = some o → h'.get? b = some o) → EP X pins σ Q (.str z t) { s with heap := h', toks := k } := fun z h' t k e hk =>
    ⟨.str z, H, I.kept hk, ⟨t, rfl⟩, by rw [e]; exact q H _ (.inl rfl) rfl⟩
  have rf : ∀ a, u = .ref a → wpAny (model X.prog X.w) X.A (call (.builtin "repr") [u]) (EP X pins σ Q) X.xe s := fun a e => by
    subst e
    exact repr_of_reads' rd hs (PyData.noDict_hsm (PyData.hasDict_of_canLay _ hl)) hg (by omega) (fun _ _ e => e) (fun h' u tk hk => fin _ h' u tk rfl hk) hz
  rcases rv with rv | ⟨l, p, vs, rfl, rfl, h1, h2⟩ | ⟨l, p, es, rfl, rfl, _⟩
  · cases x with
    | non => cases rv; cases ru; exact P.repr_of_none (fin _ s.heap _ _ rfl fun _ _ e => e)
    | bl b => cases rv; cases ru; exact P.repr_of_bool (fin _ s.heap _ _ (by cases b <;> rfl) fun _ _ e => e)
    | int i => cases rv; obtain ⟨t, rfl⟩ := ru; exact P.repr_of_int (of_decide_eq_true hs) (fin _ s.heap _ _ rfl fun _ _ e => e)
    | str y => cases rv; obtain ⟨t, rfl⟩ := ru; exact P.repr_of_str (fin _ s.heap _ _ rfl fun _ _ e => e) hz
    | tup l => obtain ⟨p, vs, rfl, _⟩ := rv; cases ru; exact rf _ rfl
    | lst l => obtain ⟨p, vs, rfl, _⟩ := rv; cases ru; exact rf _ rfl
    | _ => cases hl
  · cases ru
    exact rf _ rfl
  · cases hl
theorem reps_each {pins : List (Addr × Obj)} {σ : L2.St} {s : Shared} (I : Inv X pins σ H s) (eK : W.K = X.K) : ∀ {l : List D} {vs : List V} {us : List Value}, l.all D.ok = true → Reps W mu m H l vs → Vals vs us →
    EachIs (fun v d => ∃ y, RelV y v ∧ Rep W mu m H d y) us l ∧ EachIs (fun v d => ∃ as, Reads s.heap v d.py as) us l
  | [], _, _, _, h, r => by cases h; cases r; exact ⟨.nil, .nil⟩
  | d :: l, _, _, ho, ⟨v, t, e, h1, h2⟩, r => by
    subst e
    cases r with
    | cons r1 r2 =>
      rw [List.all_cons, Bool.and_eq_true] at ho
      obtain ⟨e1, e2⟩ := reps_each I eK ho.2 h2 r2
      exact ⟨.cons ⟨v, r1, h1⟩ e1, .cons (Dp.reads I d.py v _ (by rw [← eK]; exact h1.dp (ok_lay ho.1)) r1) e2⟩
theorem each_reps : ∀ {l : List D} {us : List Value}, EachIs (fun v d => ∃ y, RelV y v ∧ Rep W mu m H d y) us l → ∃ vs, Reps W mu m H l vs ∧ Vals vs us
  | _, _, .nil => ⟨[], rfl, .nil⟩
  | _, _, .cons ⟨y, h1, h2⟩ t => by
    obtain ⟨vs, h3, h4⟩ := each_reps t
    exact ⟨y :: vs, ⟨y, vs, rfl, h2, h3⟩, .cons h1 h4⟩
theorem alikes_ok {l : List D} (h : alikes l = true) : l.all D.ok = true ∧ AllAlike (l.map D.py) := by
  unfold alikes at h
  rw [List.all_eq_true] at h
  refine ⟨List.all_eq_true.mpr fun a ha => ?_, fun d hd d' hd' => ?_⟩
  · have := h a ha
    simp only [Bool.and_eq_true] at this
    exact this.1.1
  · obtain ⟨a, ha, rfl⟩ := List.mem_map.mp hd
    obtain ⟨b, hb, rfl⟩ := List.mem_map.mp hd'
    have := h a ha
    simp only [Bool.and_eq_true] at this
    exact List.all_eq_true.mp this.2 b hb
theorem sortable_ok {l : List D} (h : (sortable l || l.all fun d => match d with
    | .int _ | .str _ | .lst _ => true
    | _ => false) = true) : Sortable (l.map D.py) := by
  rcases Bool.or_eq_true_iff.mp h with h | h
  · refine .inl fun d hd => ?_
    obtain ⟨a, ha, rfl⟩ := List.mem_map.mp hd
    have := List.all_eq_true.mp h a ha
    cases a with
    | tup r => cases r with
      | nil => cases this
      | cons x r => exact ⟨x.py, D.pys r, rfl⟩
    | _ => cases this
  · refine .inr fun d hd => ?_
    obtain ⟨a, ha, rfl⟩ := List.mem_map.mp hd
    have := List.all_eq_true.mp h a ha
    cases a with
    | int i => exact ⟨nofun, fun _ => nofun⟩
    | str i => exact ⟨nofun, fun _ => nofun⟩
    | lst i => exact ⟨nofun, fun _ => nofun⟩
    | _ => cases this
theorem crSorted (hu : X.A.units + 66 < cLine) : CallR X (.builtin "sorted") (rO X bSorted) := by
  intro pins s σ H xs us Q I rs ⟨W, mu, m, ds, d, c, ok, r, hd, q⟩
  unfold bSorted at hd
  split at hd <;> try cases hd
  rename_i l
  split at hd <;> cases hd
  rename_i r' e
  unfold sortD at e
  split at e <;> cases e
  rename_i hc
  simp only [Bool.and_eq_true, decide_eq_true_eq] at hc
  obtain ⟨⟨hal, hso⟩, hz⟩ := hc
  obtain ⟨hok, hal⟩ := alikes_ok hal
  obtain ⟨v, rfl, rv⟩ := rU1 r
  obtain ⟨p, vs, rfl, h1, h2⟩ := rv.list
  obtain ⟨u, rfl, ru⟩ := vals1 rs
  cases ru
  obtain ⟨its, rv', hl, _⟩ := I.list (SqL.of h1)
  obtain ⟨e1, e2⟩ := reps_each I c.1 hok h2 rv'
  refine PySem.W.sorted_data (enc := D.py) hl.isList e1 e2 hal (sortable_ok hso) hz (fun b hb => ?_) fun out ho eo => ?_
  · have := ok_dep (List.all_eq_true.mp hok b hb)
    omega
  obtain ⟨ys, hy1, hy2⟩ := each_reps eo
  have eq : l.mergeSort (PySem.W.dataLe false D.py) = l.mergeSort leD := by
    rfl
  rw [eq] at hy1
  obtain ⟨ep, he'⟩ := PyProof.Rows.sortedAll_at s.heap its out.toArray
  have hlen : ys.length ≤ sizeLine := by rw [← hy1.length, List.length_mergeSort]; exact hz
  have hf : H (s.heap.objs.size + 1) = none := I.hok.fresh (Nat.le_succ _)
  exact ⟨.ref _, upd H (s.heap.objs.size + 1) (.lst ys), I.laid (t' := s.toks) (fun _ _ => PyProof.Rows.sortedAll_old) (Nat.le_succ _) ⟨hlen, out, ep, hy2, he'⟩, rfl, q _ _ (Ld.new hf) (rep_lstU ok hf hy1)⟩
/-! ### isinstance -/
theorem ty_kit {pins : List (Addr × Obj)} {σ : L2.St} {s : Shared} (I : Inv X pins σ H s) (eK : W.K = X.K) {d : D} {x : V} {u : Value} {t : String} (r : RepU W mu m H d x) (ru : RelV x u) (ht : d.ty = some t) :
    ∃ P : Heap → Prop, PySem.W.KitX X.K u (.type t) P ∧ P s.heap ∧ u ≠ .builtin "__main__.__loader__#opaque" := by
  have sqt : ∀ p vs, SqT X.K H p vs → ∃ P : Heap → Prop, PySem.W.KitX X.K (.ref p) (.type "tuple") P ∧ P s.heap ∧ (Value.ref p) ≠ .builtin "__main__.__loader__#opaque" := fun p vs h => by
    obtain ⟨its, rv, ⟨o, h1, h2, _⟩, _⟩ := I.tuple h
    exact ⟨_, PySem.W.kitx_tuple, ⟨o, h1, h2⟩, nofun⟩
  have sql : ∀ p vs, SqL X.K H p vs → ∃ P : Heap → Prop, PySem.W.KitX X.K (.ref p) (.type "list") P ∧ P s.heap ∧ (Value.ref p) ≠ .builtin "__main__.__loader__#opaque" := fun p vs h => by
    obtain ⟨its, rv, hl, _⟩ := I.list h
    exact ⟨_, PySem.W.kitx_list, hl.isList.typeIs, nofun⟩
  cases d with
  | non => cases ht; cases r.non; cases ru; exact ⟨_, PySem.W.kitx_none, True.intro, nofun⟩
  | bl b => cases ht; cases r.bl; cases ru; exact ⟨_, PySem.W.kitx_bool, True.intro, nofun⟩
  | int i => cases ht; cases r.int; obtain ⟨t, rfl⟩ := ru; exact ⟨_, PySem.W.kitx_int, True.intro, nofun⟩
  | str i => cases ht; cases r.str; obtain ⟨t, rfl⟩ := ru; exact ⟨_, PySem.W.kitx_str, True.intro, nofun⟩
  | tup l =>
    cases ht
    obtain ⟨p, vs, rfl, h1, h2⟩ := r.tuple
    cases ru
    exact sqt p vs (by rw [← eK]; exact h1.t)
  | lst l =>
    cases ht
    obtain ⟨p, vs, rfl, h1, h2⟩ := r.list
    cases ru
    exact sql p vs (SqL.of h1)
  | flst l =>
    cases ht
    obtain ⟨p, vs, rfl, h1, h2⟩ := r.flst
    cases ru
    exact sql p vs (by rw [← eK]; exact h1)
  | dct l =>
    cases ht
    obtain ⟨p, rfl, dd⟩ := r.dict
    cases ru
    exact ⟨_, PySem.W.kitx_dict, (dd.typeIs I).1, nofun⟩
  | _ => cases ht
def tyNames : List String := ["int", "bool", "str", "tuple", "list", "dict"]
theorem kit_tab {K : PySem.W.Frag} {t c : String} {d : D} (ht : d.ty = some t) (hc : c ∈ tyNames) : PySem.W.kitOne K (.type t) (.type c) = some (t == c || (t == "bool" && c == "int")) := by
  have all : ∀ t' ∈ ["NoneType", "bool", "int", "str", "tuple", "list", "dict"], ∀ c' ∈ tyNames, L2.kitB t' c' = some (t' == c' || (t' == "bool" && c' == "int")) := by decide +kernel
  refine kit_ty (all t ?_ c hc)
  cases d <;> first | (cases ht; done) | (cases ht; simp)
/-- isinstance(x, T) -/
def rIs (X : Cx) (c : String) : List V → Hp → VK → Prop := fun xs H Q => ∃ (W : Wd) (mu : Addr → Prop) (m : List Addr) (a d : D) (x : V), (W.K = X.K ∧ W.w = X.w) ∧ RepU W mu m H a x ∧ xs = [x, .ty c] ∧ isTy a c = some d ∧ ∀ v, Rep W mu m H d v → Q v H
theorem crIs {c : String} (hc : c ∈ tyNames) : CallR X (.builtin "isinstance") (rIs X c) := by
  intro pins s σ H xs us Q I rs ⟨W, mu, m, a, d, x, e, r, ex, hd, q⟩
  subst ex
  obtain ⟨u, w, rfl, ru, rw'⟩ := vals2 rs
  cases rw'
  unfold isTy at hd
  split at hd <;> cases hd
  rename_i t ht
  obtain ⟨P, Z, p, hx⟩ := ty_kit I e.1 r ru ht
  exact PySem.W.kia_one Z I.kIn p (kit_tab ht hc) hx fun tk => ⟨.bl _, H, I.tok tk, rfl, q _ rfl⟩
end
end Ev
end
section
set_option maxHeartbeats 2000000
namespace Ev
open PySem PySem.Spec PyProof.Rows L2
section
variable {X : Cx} {W : Wd} {z : En} {Wx : WX} {m m' : List Addr} {ow : Ow} {ρ : Env} {A A' : AH} {σ : L2.St} {H H' : Hp} {bb : Bool} {e e1 e2 e3 : Expr} {f f1 f2 f3 : Env → M D} {fl : Env → M (List D)} {es : List Expr} {pos p p2 apos cpos : Pos} {x : Str} {id : String} {op : List D → Option D} {Q : VK}
theorem rps_der (S : SRel W z m ow ρ A σ H) : ∀ {ds : List D} {vs : List V}, RpsX true W (muOf z.mu m ow) m H ds vs → RpsU W (muOf z.mu m ow) m H (ds.map (deref A)) vs
  | [], _, h => h
  | _ :: _, _, ⟨v, r, e, h1, h2⟩ => ⟨v, r, e, RepB.der S h1, rps_der S h2⟩
theorem OutG.ld {d : D} {v : V} (S : SRel W z m ow ρ A σ H) (h : OutE W z Wx bb m ow ρ σ H Q (.ok d A)) (l : Ld H H') (r : Rep W (muOf z.mu m ow) m H' d v) : Q v H' := by
  rcases l with rfl | ⟨p, o, hp, rfl⟩
  · exact OutG.flat S h r
  · exact h m _ _ (Sm.laid hp) (S.laid hp) (repx r)
def nsts : List Expr → Bool
  | [] => true
  | e :: r => nst e && nsts r
theorem nsts_any {E : PySem.Env} : ∀ {es : List Expr}, nsts es = true → (backTo cpos (starEach es E)).any (·.1) = false
  | [], _ => rfl
  | e :: r, h => by
    obtain ⟨h1, h2⟩ := Bool.and_eq_true_iff.mp h
    rw [nst_eq h1]
    show (false || (backTo cpos (starEach r E)).any (·.1)) = false
    rw [nsts_any h2]
    rfl
theorem nsts_all {E : PySem.Env} : ∀ {es : List Expr}, nsts es = true → (backTo cpos (starEach es E)).all (fun x => !x.1) = true
  | [], _ => rfl
  | e :: r, h => by
    obtain ⟨h1, h2⟩ := Bool.and_eq_true_iff.mp h
    rw [nst_eq h1]
    show (true && (backTo cpos (starEach r E)).all (fun x => !x.1)) = true
    rw [nsts_all h2]
    rfl
theorem blt_w (c : CtxOk X W) (h : TEv W z Wx bb (fun ρ => (fl ρ).bind fun xs => fun A => ofO (op (xs.map (deref A))) A) σ H Q) : tCB (rO X op) (TG W z Wx (RpsX true W) fl) σ H Q := by
  obtain ⟨m, ow, ρ, A, S, q⟩ := h
  refine tg_then (fa := fl) S q fun m1 H1 A1 ds vs s1 S1 r1 q1 => ?_
  obtain ⟨d, e, q2⟩ := ofO_out q1
  exact ⟨W, _, m1, _, d, ⟨c.1.symm, c.2.2.symm⟩, S1.ok, rps_der S1 r1, e, fun H' v l r => OutG.ld S1 q2 l r⟩
theorem ge_blB (c : CtxOk X W) (hc : CallR X (.builtin id) (rO X op)) (hg : Gl X x) (hm : X.mg x = none) (hv : bootBuiltins x = some (.builtin id)) (hn : x ≠ "__name__") (hdb : (x == ("__debug__" : Str)) = false) (ha : GA X W z Wx true (e :: es) fl) (hs : nsts (e :: es) = true) :
    GE X W z Wx bb (.Call (.Name x p) (e :: es) [] pos) (fun ρ => (fl ρ).bind fun xs => fun A => ofO (op (xs.map (deref A))) A) :=
  pe_weak (pe_callB hc hg hm hv ha hn hdb (nst_eq (Bool.and_eq_true_iff.mp hs).1) (nsts_any (Bool.and_eq_true_iff.mp hs).2)) fun _ _ _ q => blt_w c q
theorem ge_blT (c : CtxOk X W) (hc : CallR X (.type id) (rO X op)) (hg : Gl X x) (hm : X.mg x = none) (hv : bootBuiltins x = some (.type id)) (hn : x ≠ "__name__") (hdb : (x == ("__debug__" : Str)) = false) (ha : GA X W z Wx true (e :: es) fl) (hs : nsts (e :: es) = true) :
    GE X W z Wx bb (.Call (.Name x p) (e :: es) [] pos) (fun ρ => (fl ρ).bind fun xs => fun A => ofO (op (xs.map (deref A))) A) :=
  pe_weak (pe_callTy hc hg hm hv ha hn hdb (nst_eq (Bool.and_eq_true_iff.mp hs).1) (nsts_any (Bool.and_eq_true_iff.mp hs).2)) fun _ _ _ q => blt_w c q
/-- isinstance(e, T) -/
theorem ge_is (c : CtxOk X W) {T : String} {xT : Str} (hT : T ∈ tyNames) (hg : Gl X "isinstance") (hm : X.mg "isinstance" = none) (hgT : Gl X xT) (hmT : X.mg xT = none) (hvT : bootBuiltins xT = some (.type T)) (hn : xT ≠ "__name__") (hdb : (xT == ("__debug__" : Str)) = false) (h : GE X W z Wx true e f) (hs : nst e = true) :
    GE X W z Wx bb (.Call (.Name "isinstance" p) [e, .Name xT p2] [] pos) (fun ρ => (f ρ).bind fun d => fun A => ofO (isTy (deref A d) T) A) :=
  pe_weak (pe_callB (crIs hT) hg hm PyProof.Rows.boot_isinstance (pa_cons h (pa_cons (pe_bltn (v := .ty T) hgT hmT hvT rfl hn hdb) pa_nil) (nst_eq hs)) (by decide) (by decide) (nst_eq hs) rfl) fun σ H Q ⟨m, ow, ρ, A, S, q⟩ => by
    refine te_then (fa := f) S q fun m1 H1 A1 d v s1 S1 r1 q1 => ?_
    obtain ⟨d', e, q2⟩ := ofO_out q1
    exact ⟨W, _, m1, _, d', v, ⟨c.1.symm, c.2.2.symm⟩, r1.der S1, rfl, e, fun v r => OutG.flat S1 q2 (by
      unfold isTy at e
      split at e <;> cases e
      cases r
      rfl)⟩
/-! ### methods -/
structure MtOk (X : Cx) (name : Str) (T : String) (op : D → List D → Option D) : Prop where
  ex : ∃ id, PlainAttrs T ∧ Slot T name id ∧ typeOf (.builtin id) = pure (.type "method_descriptor") ∧
    ∀ (pins : List (Addr × Obj)) (s : Shared) (σ : L2.St) (H : Hp) (W : Wd) (mu : Addr → Prop) (m : List Addr) (a : D) (ds : List D) (d : D) (x : V) (xs : List V) (v : Value) (us : List Value) (Q : VK), Inv X pins σ H s → RelV x v → Vals xs us →
      (W.K = X.K ∧ W.w = X.w) → RepU W mu m H a x → a.ty = some T → Reps W mu m H ds xs → op a ds = some d → (∀ v', Rep W mu m H d v' → Q v' H) → wpAny (model X.prog X.w) X.A (call (.builtin id) (v :: us)) (EP X pins σ Q) X.xe s
theorem ty_none {pins : List (Addr × Obj)} {s : Shared} {mu} {d : D} {x : V} {u : Value} {t : String} (I : Inv X pins σ H s) (eK : W.K = X.K) (r : RepU W mu m H d x) (ru : RelV x u) (ht : d.ty = some t) :
    s.TypeIs u t ∧ ∀ a, u = .ref a → ∃ ob, s.heap.get? a = some ob ∧ ob.dict = none := by
  have sql : ∀ p vs, SqL X.K H p vs → s.TypeIs (.ref p) "list" ∧ ∀ a, Value.ref p = .ref a → ∃ ob, s.heap.get? a = some ob ∧ ob.dict = none := fun p vs h => by
    obtain ⟨its, rv, hl, _⟩ := I.list h
    refine ⟨hl.isList.typeIs, fun a e => ?_⟩
    cases e
    obtain ⟨o, n, e, c, hd, _⟩ := hl
    exact ⟨o, e, hd⟩
  cases d with
  | non => cases ht; cases r.non; cases ru; exact ⟨rfl, nofun⟩
  | bl b => cases ht; cases r.bl; cases ru; exact ⟨rfl, nofun⟩
  | int i => cases ht; cases r.int; obtain ⟨t, rfl⟩ := ru; exact ⟨typeIs_int s i t, nofun⟩
  | str i => cases ht; cases r.str; obtain ⟨t, rfl⟩ := ru; exact ⟨typeIs_str s i t, nofun⟩
  | tup l =>
    cases ht
    obtain ⟨p, vs, rfl, h1, h2⟩ := r.tuple
    cases ru
    rw [eK] at h1
    obtain ⟨its, rv, ht, _⟩ := I.tuple h1.t
    refine ⟨ht.typeIs, fun a e => ?_⟩
    cases e
    rcases h1 with ⟨o, h1, hd⟩ | ⟨o, its, n, h1, _, hd, _⟩
    · exact ⟨o, (I.hok p _ h1).1, hd⟩
    · exact ⟨o, I.kIn p o h1, hd⟩
  | lst l =>
    cases ht
    obtain ⟨p, vs, rfl, h1, h2⟩ := r.list
    cases ru
    exact sql p vs (SqL.of h1)
  | flst l =>
    cases ht
    obtain ⟨p, vs, rfl, h1, h2⟩ := r.flst
    cases ru
    exact sql p vs (by rw [← eK]; exact h1)
  | dct l =>
    cases ht
    obtain ⟨p, rfl, dd⟩ := r.dict
    cases ru
    obtain ⟨h1, h2, _⟩ := dd.typeIs I
    exact ⟨h1, h2⟩
  | _ => cases ht
theorem tyAt_out {α β : Type} {rp : Rp α β} {Q : β → Hp → Prop} {l : List String} {d : D} {k : String → M α} (h : OutG W z Wx rp m ow ρ σ H Q ((tyAt l d).bind k A)) : ∃ t, (deref A d).ty = some t ∧ t ∈ l ∧ OutG W z Wx rp m ow ρ σ H Q (k t A) := by
  unfold M.bind tyAt at h
  cases e : (deref A d).ty with
  | none => rw [e] at h; exact h.elim
  | some t =>
    rw [e] at h
    by_cases hl : t ∈ l
    · simp only [if_pos hl] at h
      exact ⟨t, rfl, hl, h⟩
    · simp only [if_neg hl] at h
      exact h.elim
theorem ge_mth (c : CtxOk X W) {name : Str} {l : List String} {op : D → List D → Option D} (hm : ∀ T ∈ l, MtOk X name T op) (h : GE X W z Wx true e1 f1) (ha : GA X W z Wx false (e :: es) fl) (hs : nsts (e :: es) = true)
    (hb : attributeBase e1 name X.env (eval e1 X.env) = eval e1 X.env) (hl : (apos.endLine == cpos.line) = true) (hz : (e :: es).length < 20) :
    GE X W z Wx bb (.Call (.Attribute e1 name apos) (e :: es) [] cpos) (fun ρ => (f1 ρ).bind fun x => (tyAt l x).bind fun t => (fl ρ).bind fun xs => fun A => ofO (mthT op t (deref A x) xs) A) :=
  ⟨fun pins s σ H Q I ⟨m, ow, ρ, A, S, q⟩ => by
    refine wpAny_Call_method_late hb ?_ hl rfl (thn (h.run pins s σ H (fun v H' => ∃ m1 A1 d t, SRel W z m1 ow ρ A1 σ H' ∧ RepB W (muOf z.mu m1 ow) m1 H' d v ∧ (deref A1 d).ty = some t ∧ t ∈ l ∧ OutE W z Wx bb m1 ow ρ σ H' Q ((fl ρ).bind (fun xs => fun A => ofO (mthT op t (deref A d) xs) A) A1)) I ?_) fun v s1 ⟨x, H1, I1, r1, m1, A1, d, T, S1, rb, ht, hT, q1⟩ => ?_)
    · rw [nsts_all hs]
      show (true && true && decide ((e :: es).length + 0 + 0 < 30)) = true
      rw [decide_eq_true (by omega)]
      rfl
    · exact te_then (fa := f1) S q fun m1 H1 A1 d v s1 S1 r1 q1 => by
        obtain ⟨t, h1, h2, h3⟩ := tyAt_out q1
        exact ⟨m1, A1, d, t, S1, r1, h1, h2, h3⟩
    · obtain ⟨id, pa, slot, hty, hmt⟩ := (hm T hT).ex
      obtain ⟨t1, t2⟩ := ty_none I1 c.1.symm (rb.der S1) r1 ht
      refine ⟨T, id, pa, slot, hty, t1, t2, ?_⟩
      have hA := ha.run cpos pins s1 σ H1 (fun vs H2 => ∃ m2 A2 ds dd, SRel W z m2 ow ρ A2 σ H2 ∧ Reps W (muOf z.mu m2 ow) m2 H2 ds vs ∧ RepB W (muOf z.mu m2 ow) m2 H2 d x ∧ (deref A2 d).ty = some T ∧ op (deref A2 d) ds = some dd ∧ OutE W z Wx bb m2 ow ρ σ H2 Q (.ok dd A2)) I1 ?_
      · rw [nst_eq (Bool.and_eq_true_iff.mp hs).1] at hA ⊢
        refine Calls.callWith_builtin (by show (false || (backTo cpos (starEach es X.env)).any (·.1)) = false; rw [nsts_any (Bool.and_eq_true_iff.mp hs).2] <;> rfl) (Calls.evalArgs_plain ?_)
        refine thn hA fun us s2 ⟨vs, H2, I2, r2, m2, A2, ds, dd, S2, rs, rb2, ht2, ho, q2⟩ => ?_
        exact hmt pins s2 σ H2 W _ m2 _ ds dd x vs v us Q I2 r1 r2 ⟨c.1.symm, c.2.2.symm⟩ (rb2.der S2) ht2 rs ho fun v' r => OutG.flat S2 q2 r
      · refine tg_then (fa := fl) S1 q1 fun m2 H2 A2 ds vs s2 S2 r2 q2 => ?_
        obtain ⟨dd, e, q3⟩ := ofO_out q2
        unfold mthT at e
        split at e
        · rename_i ht2
          exact ⟨m2, A2, ds, dd, S2, rpsX_f r2, rb.mono S1 s2, ht2, e, q3⟩
        · cases e⟩
theorem r1 {mu} {x : D} {xs : List V} (r : Reps W mu m H [x] xs) : ∃ v, xs = [v] ∧ Rep W mu m H x v := by
  obtain ⟨v, t, rfl, h, h2⟩ := r
  cases h2
  exact ⟨v, rfl, h⟩
theorem r2 {mu} {x y : D} {xs : List V} (r : Reps W mu m H [x, y] xs) : ∃ v u, xs = [v, u] ∧ Rep W mu m H x v ∧ Rep W mu m H y u := by
  obtain ⟨v, t, rfl, h, h2⟩ := r
  obtain ⟨u, rfl, h3⟩ := r1 h2
  exact ⟨v, u, rfl, h, h3⟩
theorem countP_map {l : List D} {x : D} : (l.countP fun z => eqD z x) = (D.pys l).countP fun y => PyData.eqv y x.py := by
  rw [pys_map, List.countP_map]
  rfl
theorem mt_count (hu : X.A.units + 66 < cLine) : ∀ T ∈ mTys .count, MtOk X "count" T mCount := fun T hT => by
  have two : T = "tuple" ∨ T = "list" := by simpa [mTys] using hT
  rcases two with rfl | rfl
  · refine ⟨"tuple.count", PySem.F.plainAttrs_tuple, PySem.F.slot_tuple_count, PySem.F.type_tuple_count, fun pins s σ H W mu m a ds d x xs v us Q I rx rxs c r ht rs ho q => ?_⟩
    unfold mCount at ho
    split at ho
    · rename_i l y
      split at ho <;> cases ho
      rename_i hok
      obtain ⟨h1, h2⟩ := Bool.and_eq_true_iff.mp hok
      obtain ⟨y', rfl, ry⟩ := r1 rs
      obtain ⟨u, rfl, ru⟩ := vals1 rxs
      obtain ⟨p, vs, rfl, sq, rv⟩ := r.tuple
      cases rx
      obtain ⟨c1, c2⟩ := all_lay h2
      have sq' : SqT X.K H p vs := by rw [← c.1]; exact sq.t
      obtain ⟨its, rits, ⟨o, g1, g2, n, g3⟩, _⟩ := I.tuple sq'
      obtain ⟨bs, q2⟩ := Dp.reads I y.py y' u (by rw [← c.1]; exact ry.dp (ok_lay h1)) ru
      obtain ⟨as, q1⟩ := Dp.readsAll I (D.pys l) vs its (by rw [← c.1]; exact rv.dp c1) rits
      have hc : (o.cls) = .type "tuple" := g2
      refine SeqAt.count_tuple_data (vs := its.toArray) ⟨o, g1, g2, n, g3⟩ (by simpa using q1) q2 (PyData.plainAll_of_canLay0 _ c1) (PyData.plain_of_canLay0 _ (ok_lay h1)) (by omega) ?_
      rw [← countP_map]
      exact ⟨.int _, H, I.tok _, ⟨_, rfl⟩, q _ rfl⟩
    · exact absurd (Option.some.inj ht) (by decide)
    · cases ho
  · refine ⟨"list.count", PySem.F.plainAttrs_list, PySem.F.slot_list_count, PySem.F.type_list_count, fun pins s σ H W mu m a ds d x xs v us Q I rx rxs c r ht rs ho q => ?_⟩
    unfold mCount at ho
    split at ho
    · exact absurd (Option.some.inj ht) (by decide)
    · rename_i l y
      split at ho <;> cases ho
      rename_i hok
      obtain ⟨h1, h2⟩ := Bool.and_eq_true_iff.mp hok
      obtain ⟨y', rfl, ry⟩ := r1 rs
      obtain ⟨u, rfl, ru⟩ := vals1 rxs
      obtain ⟨p, vs, rfl, sq, rv⟩ := r.list
      cases rx
      obtain ⟨c1, c2⟩ := all_lay h2
      obtain ⟨its, rits, hl, _⟩ := I.list (SqL.of sq)
      obtain ⟨bs, q2⟩ := Dp.reads I y.py y' u (by rw [← c.1]; exact ry.dp (ok_lay h1)) ru
      obtain ⟨as, q1⟩ := Dp.readsAll I (D.pys l) vs its (by rw [← c.1]; exact rv.dp c1) rits
      refine SeqAt.count_list_data (vs := its.toArray) hl.isList (by simpa using q1) q2 (PyData.plainAll_of_canLay0 _ c1) (PyData.plain_of_canLay0 _ (ok_lay h1)) (by omega) ?_
      rw [← countP_map]
      exact ⟨.int _, H, I.tok _, ⟨_, rfl⟩, q _ rfl⟩
    · cases ho
theorem mt_get1 (hu : X.A.units + 66 < cLine) : ∀ T ∈ mTys .get1, MtOk X "get" T mGet1 := fun T hT => by
  have two : T = "dict" := by simpa [mTys] using hT
  subst two
  refine ⟨"dict.get", PySem.F.plainAttrs_dict, PySem.F.slot_dict_get, PySem.F.type_dict_get, fun pins s σ H W mu m a ds d x xs v us Q I rx rxs c r ht rs ho q => ?_⟩
  unfold mGet1 at ho
  split at ho
  · rename_i l y
    split at ho <;> cases ho
    rename_i hok
    obtain ⟨y', rfl, ry⟩ := r1 rs
    obtain ⟨u, rfl, ru⟩ := vals1 rxs
    obtain ⟨p, rfl, dd⟩ := r.dict
    cases rx
    exact dd_get1 hu I c.1 c.2 dd hok ry ru fun y w' s' I' ry' rd => ⟨y, H, I', ry', q y rd⟩
  · cases ho
theorem mt_get2 (hu : X.A.units + 66 < cLine) : ∀ T ∈ mTys .get2, MtOk X "get" T mGet2 := fun T hT => by
  have two : T = "dict" := by simpa [mTys] using hT
  subst two
  refine ⟨"dict.get", PySem.F.plainAttrs_dict, PySem.F.slot_dict_get, PySem.F.type_dict_get, fun pins s σ H W mu m a ds d x xs v us Q I rx rxs c r ht rs ho q => ?_⟩
  unfold mGet2 at ho
  split at ho
  · rename_i l y df
    split at ho <;> cases ho
    rename_i hok
    obtain ⟨y', z', rfl, ry, rz⟩ := r2 rs
    obtain ⟨u, w, rfl, ru, rw'⟩ := vals2 rxs
    obtain ⟨p, rfl, dd⟩ := r.dict
    cases rx
    exact dd_get2 hu I c.1 c.2 dd hok ry ru rw' rz fun y w' s' I' ry' rd => ⟨y, H, I', ry', q y rd⟩
  · cases ho
theorem shaped_of {d : D} (h : d.ok = true) : SeqAt.shaped d.py = true := ok_shaped h
theorem mt_index (hu : X.A.units + 66 < cLine) : ∀ T ∈ mTys .index, MtOk X "index" T mIndex := fun T hT => by
  have two : T = "list" := by simpa [mTys] using hT
  subst two
  refine ⟨"list.index", PySem.F.plainAttrs_list, PySem.F.slot_list_index, PySem.F.type_list_index, fun pins s σ H W mu m a ds d x xs v us Q I rx rxs c r ht rs ho q => ?_⟩
  unfold mIndex at ho
  split at ho
  · rename_i l y
    split at ho
    · rename_i hok
      split at ho <;> cases ho
      rename_i n hn
      obtain ⟨h1, h2⟩ := Bool.and_eq_true_iff.mp hok
      obtain ⟨y', rfl, ry⟩ := r1 rs
      obtain ⟨p, vs, rfl, sq, rv⟩ := r.list
      have hn' := List.findIdx?_eq_some_iff_getElem.mp hn
      obtain ⟨k1, k2, k3⟩ := hn'
      have dpl : Dp X.K H (.ref p) (D.lst l).py := by rw [← c.1]; exact r.dp (ok_lay h2)
      refine mt_indexD (by omega) pins s σ H (.ref p) [y'] v us Q I rx rxs ⟨p, y', y.py, D.pys l, n, (l[n]).py, rfl, rfl, dpl, by rw [← c.1]; exact ry.dp (ok_lay h1), ok_shaped h2, ok_shaped h1, ?_, k2, fun j z' hj hz => ?_, q _ rfl⟩
      · rw [pys_map, List.getElem?_map, List.getElem?_eq_getElem k1]
        rfl
      · rw [pys_map, List.getElem?_map] at hz
        have hjl : j < l.length := by omega
        rw [List.getElem?_eq_getElem hjl] at hz
        have e : (l[j]).py = z' := Option.some.inj hz
        rw [← e]
        have := k3 j hj
        simpa [eqD] using this
    · cases ho
  · cases ho
theorem mt_all (hu : X.A.units + 66 < cLine) {mf : MF} {name : Str} (hn : (mf = .count ∧ name = "count") ∨ (mf = .index ∧ name = "index") ∨ (mf = .get1 ∧ name = "get") ∨ (mf = .get2 ∧ name = "get")) : ∀ T ∈ mTys mf, MtOk X name T (mthD mf) := by
  rcases hn with ⟨rfl, rfl⟩ | ⟨rfl, rfl⟩ | ⟨rfl, rfl⟩ | ⟨rfl, rfl⟩
  · exact mt_count hu
  · exact mt_index hu
  · exact mt_get1 hu
  · exact mt_get2 hu
end
end Ev
end
section
set_option maxHeartbeats 2000000
namespace Ev
open PySem PySem.Spec PyProof.Rows L2
/-- a def with plain parameters -/
structure Simple (fd : FuncData) (ps : List Str) : Prop where
  pos : fd.params.posonlyargs = []
  nor : fd.params.args.map (·.arg) = ps
  va : fd.params.vararg = none
  ko : fd.params.kwonlyargs = []
  kw : fd.params.kwarg = none
  df : fd.defaults = .none
def bindE (ps : List Str) (us : List Value) (kw : List (Str × Value)) : List (Str × Value) := ps.filterMap fun n => ((ps.zip us ++ kw).lookup n).map (n, ·)
theorem forIn_app {α γ : Type} (z : List α) (f : α → (List α × List γ) → Sem (ForInStep (List α × List γ))) : ∀ (b a : List α), (∀ a' b' q, a ++ b = a' ++ q :: b' → f q (z ++ a', []) = pure (.yield (z ++ (a' ++ [q]), []))) → forIn b (z ++ a, []) f = pure (z ++ (a ++ b), [])
  | [], a, h => by simp
  | q :: b, a, h => by
    rw [List.forIn_cons, h a b q rfl, pure_bind]
    show forIn b (z ++ (a ++ [q]), []) f = _
    rw [forIn_app z f b (a ++ [q]) (fun a' b' q' e => h a' b' q' (by rw [← e]; simp))]
    simp
theorem bind_simple {fd : FuncData} {ps : List Str} (h : Simple fd ps) {us : List Value} {kw : List (Str × Value)} (h1 : ∀ q ∈ kw, q.1 ∈ ps) (h2 : ∀ (a b : List (Str × Value)) q, kw = a ++ q :: b → ((ps.zip us ++ a).lookup q.1) = none) (h3 : us.length ≤ ps.length)
  (h4 : ∀ n ∈ ps, ((ps.zip us ++ kw).lookup n).isNone = false) : bindArgs fd ⟨us, kw⟩ = pure (bindE ps us kw) := by
  unfold bindArgs
  simp only [h.pos, h.nor, h.va, h.ko, h.kw, h.df, List.map_nil, List.nil_append, List.append_nil]
  have e0 := forIn_app (γ := Str × Value) (ps.zip us) (fun x __s => ?f) kw []
  case f => exact (pure (.yield (__s.1 ++ [x], __s.2)))
  have sz : seqItems? Value.none = (pure none : Sem (Option (Array Value))) := rfl
  have hf : (List.filter (fun n => (List.lookup n (ps.zip us ++ kw)).isNone) ps) = [] := List.filter_eq_nil_iff.mpr fun n hn => by rw [h4 n hn]; exact Bool.false_ne_true
  have hg : ¬ (us.length > ps.length) := by omega
  have step : ∀ (f : Str × Value → (List (Str × Value) × List (Str × Value)) → Sem (ForInStep (List (Str × Value) × List (Str × Value)))), (∀ a' b' q, kw = a' ++ q :: b' → f q (ps.zip us ++ a', []) = pure (.yield (ps.zip us ++ (a' ++ [q]), []))) → forIn kw (ps.zip us, []) f = pure (ps.zip us ++ kw, []) := fun f hf => by
    have := forIn_app (ps.zip us) f kw [] (fun a' b' q e => hf a' b' q (by rw [← e]; rfl))
    simpa using this
  rw [step _ (fun a b q e => by
    have m1 : ps.contains q.1 = true := by
      rw [List.contains_iff_mem]
      exact h1 q (by rw [e]; simp)
    simp only [m1, Bool.true_or, if_true, h2 a b q e, Option.isSome_none, Bool.false_eq_true, if_false, List.append_assoc])]
  simp only [pure_bind, sz, Option.getD_none, List.drop_nil, List.length_nil, Nat.sub_zero, List.take_length, List.drop_length, List.zip_nil_left, List.forIn_nil, hf, List.isEmpty_nil, Bool.not_true, Bool.false_eq_true, if_false, Option.isNone_none, Bool.and_true, decide_eq_true_eq, hg]
  rfl
/-! ### arguments by name -/
def bindA {α : Type} (ps : List Str) (us : List α) (kw : List (Str × α)) : List α := ps.filterMap fun n => (ps.zip us ++ kw).lookup n
def ndS : List Str → Bool
  | [] => true
  | a :: r => !r.contains a && ndS r
def bindOk (ps : List Str) (n : Nat) (ks : List Str) : Bool := decide (n ≤ ps.length) && ks.all (fun k => ps.contains k && !(ps.take n).contains k) && ndS ks && (ps.drop n).all (fun p => ks.contains p)
theorem ndS_app {q : Str} : ∀ {a b : List Str}, ndS (a ++ q :: b) = true → q ∉ a
  | [], _, _ => by simp
  | x :: a, b, h => by
    have h' : (!(a ++ q :: b).contains x && ndS (a ++ q :: b)) = true := h
    obtain ⟨h1, h2⟩ := Bool.and_eq_true_iff.mp h'
    rw [List.mem_cons, not_or]
    refine ⟨?_, ndS_app h2⟩
    rintro rfl
    simp at h1
theorem lookup_none {α : Type} {n : Str} : ∀ {l : List (Str × α)}, n ∉ l.map (·.1) → l.lookup n = none
  | [], _ => rfl
  | (k, v) :: l, h => by
    rw [List.map_cons, List.mem_cons, not_or] at h
    have e : (n == k) = false := beq_eq_false_iff_ne.mpr h.1
    simp only [List.lookup, e]
    exact lookup_none h.2
theorem lookup_some {α : Type} {n : Str} : ∀ {l : List (Str × α)}, n ∈ l.map (·.1) → (l.lookup n).isNone = false
  | [], h => by cases h
  | (k, v) :: l, h => by
    by_cases e : n = k
    · subst e
      simp [List.lookup]
    · rw [List.map_cons, List.mem_cons] at h
      have e' : (n == k) = false := beq_eq_false_iff_ne.mpr e
      simp only [List.lookup, e']
      exact lookup_some (h.resolve_left e)
theorem zip_fst {α : Type} : ∀ {ps : List Str} {us : List α}, us.length ≤ ps.length → (ps.zip us).map (·.1) = ps.take us.length
  | _, [], _ => by simp
  | [], _ :: _, h => by simp at h
  | p :: ps, u :: us, h => by
    simp at h
    simp [zip_fst h]
theorem bind_to {fd : FuncData} {ps ks : List Str} (h : Simple fd ps) {us ws : List Value} {n : Nat} (hn : us.length = n) (hw : ws.length = ks.length) (ok : bindOk ps n ks = true) : bindArgs fd ⟨us, ks.zip ws⟩ = pure (ps.zip (bindA ps us (ks.zip ws))) := by
  unfold bindOk at ok
  simp only [Bool.and_eq_true, decide_eq_true_eq, List.all_eq_true, Bool.not_eq_true', List.contains_iff_mem] at ok
  obtain ⟨⟨⟨a1, a2⟩, a3⟩, a4⟩ := ok
  have zk : (ks.zip ws).map (·.1) = ks := by
    rw [zip_fst (by omega), hw, List.take_length]
  have zp : (ps.zip us).map (·.1) = ps.take n := by rw [zip_fst (by omega), hn]
  have pres : ∀ m ∈ ps, ((ps.zip us ++ ks.zip ws).lookup m).isNone = false := fun m hm => by
    refine lookup_some ?_
    rw [List.map_append, zk, zp, List.mem_append]
    by_cases q : m ∈ ps.take n
    · exact .inl q
    · refine .inr (a4 m ?_)
      rw [← List.take_append_drop n ps, List.mem_append] at hm
      exact hm.resolve_left q
  rw [bind_simple h (fun q hq => ?_) (fun a b q e => ?_) (by omega) pres]
  · congr 1
    unfold bindE bindA
    revert pres
    generalize ps.zip us ++ ks.zip ws = L
    intro pres
    clear a1 a2 a3 a4 zk zp h
    induction ps with
    | nil => rfl
    | cons p ps ih =>
      have h1 := pres p List.mem_cons_self
      have h2 := ih fun m hm => pres m (List.mem_cons_of_mem _ hm)
      cases e : L.lookup p with
      | none => rw [e] at h1; cases h1
      | some v =>
        simp only [List.filterMap_cons, e, Option.map_some, List.zip_cons_cons]
        rw [h2]
  · exact (a2 q.1 (by rw [← zk]; exact List.mem_map_of_mem hq)).1
  · refine lookup_none ?_
    rw [List.map_append, zp, List.mem_append, not_or]
    have hq : q.1 ∈ ks := by rw [← zk, e]; simp
    refine ⟨fun z => ?_, ?_⟩
    · have := (a2 q.1 hq).2
      rw [List.contains_iff_mem.mpr z] at this
      cases this
    · refine ndS_app (b := b.map (·.1)) ?_
      have : ks = a.map (·.1) ++ q.1 :: b.map (·.1) := by rw [← zk, e]; simp
      rw [← this]
      exact a3
/-- two lists, item by item -/
def F2 {α β : Type} (R : α → β → Prop) : List α → List β → Prop
  | [], ys => ys = []
  | x :: xs, ys => ∃ y r, ys = y :: r ∧ R x y ∧ F2 R xs r
theorem F2.vals : ∀ {vs : List V} {us : List Value}, F2 RelV vs us ↔ Vals vs us
  | [], us => ⟨(fun h => by cases h; exact .nil), (fun h => by cases h; rfl)⟩
  | v :: vs, us => ⟨(fun ⟨y, r, e, h1, h2⟩ => by subst e; exact .cons h1 (F2.vals.mp h2)), (fun h => by cases h with | cons h1 h2 => exact ⟨_, _, rfl, h1, F2.vals.mpr h2⟩)⟩
theorem F2.reps {W mu m H} : ∀ {ds : List D} {vs : List V}, F2 (Rep W mu m H) ds vs ↔ Reps W mu m H ds vs
  | [], vs => Iff.rfl
  | d :: ds, vs => ⟨(fun ⟨y, r, e, h1, h2⟩ => ⟨y, r, e, h1, F2.reps.mp h2⟩), (fun ⟨y, r, e, h1, h2⟩ => ⟨y, r, e, h1, F2.reps.mpr h2⟩)⟩
theorem F2.length {α β : Type} {R : α → β → Prop} : ∀ {xs : List α} {ys : List β}, F2 R xs ys → xs.length = ys.length
  | [], _, h => by cases h; rfl
  | _ :: _, _, ⟨y, r, e, _, h⟩ => by subst e; simp [F2.length h]
theorem F2.look {α β : Type} {R : α → β → Prop} {n : Str} : ∀ {ps : List Str} {xs : List α} {ys : List β}, F2 R xs ys → ((ps.zip xs).lookup n = none ∧ (ps.zip ys).lookup n = none) ∨ ∃ x y, (ps.zip xs).lookup n = some x ∧ (ps.zip ys).lookup n = some y ∧ R x y
  | [], _, _, _ => .inl ⟨by simp, by simp⟩
  | _ :: _, [], _, h => by cases h; exact .inl ⟨by simp, by simp⟩
  | p :: ps, x :: xs, _, ⟨y, r, e, h1, h2⟩ => by
    subst e
    simp only [List.zip_cons_cons, List.lookup]
    by_cases q : (n == p) = true
    · simp only [q]
      exact .inr ⟨x, y, rfl, rfl, h1⟩
    · have q : (n == p) = false := by simpa using q
      simp only [q]
      exact F2.look h2
theorem F2.bind {α β : Type} {R : α → β → Prop} {ps ks : List Str} {xs xk : List α} {ys yk : List β} (h : F2 R xs ys) (hk : F2 R xk yk) : F2 R (bindA ps xs (ks.zip xk)) (bindA ps ys (ks.zip yk)) := by
  unfold bindA
  have key : ∀ qs : List Str, F2 R (qs.filterMap fun n => (ps.zip xs ++ ks.zip xk).lookup n) (qs.filterMap fun n => (ps.zip ys ++ ks.zip yk).lookup n) := by
    intro qs
    induction qs with
    | nil => rfl
    | cons q qs ih =>
      have la : ∀ {γ : Type} (a b : List (Str × γ)), (a ++ b).lookup q = (a.lookup q).or (b.lookup q) := fun a b => List.lookup_append
      rw [List.filterMap_cons, List.filterMap_cons, la, la]
      rcases F2.look (ps := ps) (n := q) h with ⟨e1, e2⟩ | ⟨x, y, e1, e2, r⟩
      · rw [e1, e2]
        simp only [Option.none_or]
        rcases F2.look (ps := ks) (n := q) hk with ⟨e1, e2⟩ | ⟨x, y, e1, e2, r⟩
        · rw [e1, e2]; exact ih
        · rw [e1, e2]; exact ⟨y, _, rfl, r, ih⟩
      · rw [e1, e2]
        exact ⟨y, _, rfl, r, ih⟩
  exact key ps
/-! ### what a def promises, by the evaluator -/
structure FnG (P : Program) (w : World) (K : PySem.W.Frag) (mg : Str → Option Value) (base : Heap) (CX : CXT) (k : Nat) (f : Addr) (fd : FuncData) (ps : List Str) (sp : Sp) : Prop where
  len : ∀ vs H Q E, sp vs H Q E → vs.length = ps.length
  run : ∀ (A : Around) (outer : List PySem.Env) (s : Shared) (H : Hp) (args : Args) (us : List Value) (vs : List V) (Q : VK) (E : XK), Room k A → A.guards = some [] → Env0 P w K mg base A outer s H → BindsTo s fd args (ps.zip us) → Vals vs us → sp vs H Q E →
    codeAny (model P w) A (.call (.ref f) args) (CR CX outer P w H s Q E) s
theorem FnG.mono {P w K mg base CX j k f fd ps sp} (F : FnG P w K mg base CX j f fd ps sp) (h : j ≤ k) : FnG P w K mg base CX k f fd ps sp := ⟨F.len, fun A outer s H args us vs Q E hr => F.run A outer s H args us vs Q E (hr.mono h)⟩
def ow0 : Ow := fun _ => none
/-- the state at a call, at its end -/
def OutS (W : Wd) (mu0 : Addr → Prop) (m : List Addr) (H : Hp) (Q : VK) (E : XK) : R D → Prop
  | .ok d A' => ∀ m' H' v, Sm m H m' H' → MuOk (muOf mu0 m' ow0) H' → HRel W (muOf mu0 m' ow0) m' A' H' → Rep W (muOf mu0 m' ow0) m' H' d v → Q v H'
  | .exc x A' => ∀ m' H' cls dd, Sm m H m' H' → MuOk (muOf mu0 m' ow0) H' → HRel W (muOf mu0 m' ow0) m' A' H' → ExR W (muOf mu0 m' ow0) m' H' x cls dd → E cls dd H'
  | .stuck => False
def spOf (W : Wd) (n : Nat) (r : List D → M D) : Sp := fun vs H Q E => vs.length = n ∧ ∃ mu0 m A ds, MuOk (muOf mu0 m ow0) H ∧ HRel W (muOf mu0 m ow0) m A H ∧ Reps W (muOf mu0 m ow0) m H ds vs ∧ OutS W mu0 m H Q E (r ds A)
section
variable {X : Cx} {W : Wd} {z : En} {Wx : WX} {m m' : List Addr} {ow : Ow} {ρ : Env} {A A' : AH} {σ : L2.St} {H H' : Hp} {bb : Bool} {pins : List (Addr × Obj)} {s : Shared}
theorem run_fnG {CX : CXT} {k : Nat} {f : Addr} {fd : FuncData} {ps : List Str} {sp : Sp} {Q : VK} {E : XK} {us gs : List Value} {kw : List (Str × Value)} {vs : List V} (F : FnG X.prog X.w X.K X.mg X.base CX k f fd ps sp) (hr : Room k X.A) (hg : X.A.guards = some [])
    (hb : BindsTo s fd ⟨us, kw⟩ (ps.zip gs)) (hx : PassesAt CX X σ E) (I : Inv X pins σ H s) (r : Vals vs gs) (h : sp vs H Q E) : wpAny (model X.prog X.w) X.A (call (.ref f) us kw) (EP X pins σ Q) X.xe s := by
  refine wpAny_call (codeAny_mono (F.run X.A X.stack s H ⟨us, kw⟩ gs vs Q E hr hg I.env0 hb r h) fun r s' hq => ?_)
  cases r with
  | error e => exact hx pins H s e s' I hq
  | ok fl =>
    cases fl with
    | ret u => exact I.after hq
    | next => exact False.elim hq
    | brk => exact False.elim hq
    | cont => exact False.elim hq
def muC (z : En) (ow : Ow) : Addr → Prop := fun p => z.mu p ∨ ∃ i, ow i = some p
theorem muC_eq {m : List Addr} : muOf (muC z ow) m ow0 = muOf z.mu m ow := by
  funext p
  refine propext ⟨fun h => ?_, fun h => ?_⟩
  · rcases h with (h | h) | h | ⟨i, h⟩
    · exact .inl h
    · exact .inr (.inr h)
    · exact .inr (.inl h)
    · cases h
  · rcases h with h | h | h
    · exact .inl (.inl h)
    · exact .inr (.inl h)
    · exact .inl (.inr h)
/-- a call's outcome -/
theorem OutG.call {n : Nat} {g : List D → M D} {ds : List D} {vs : List V} {Q : VK} (S : SRel W z m ow ρ A σ H) (hn : vs.length = n) (r : Reps W (muOf z.mu m ow) m H ds vs) (h : OutE W z Wx bb m ow ρ σ H Q (g ds A)) : spOf W n g vs H Q (fun c d H => Wx c d σ H) := by
  refine ⟨hn, muC z ow, m, A, ds, by rw [muC_eq]; exact S.ok, by rw [muC_eq]; exact S.hp, by rw [muC_eq]; exact r, ?_⟩
  cases e : g ds A with
  | ok d A' =>
    rw [e] at h
    intro m' H' v s1 ok hp rp
    rw [muC_eq] at ok hp rp
    exact h m' H' v s1 (S.step s1 hp) (repx rp)
  | exc x A' =>
    rw [e] at h
    intro m' H' cls dd s1 ok hp rp
    rw [muC_eq] at ok hp rp
    exact h m' H' cls dd s1 (S.step s1 hp) rp
  | stuck => rw [e] at h; exact h.elim
end
end Ev
end
section
set_option maxHeartbeats 2000000
namespace Ev
open PySem PySem.Spec PyProof.Rows L2
/-- how a def is called -/
structure FnC (X : Cx) (W : Wd) (x : Str) (ps : List Str) (g : List D → M D) : Prop where
  ex : ∃ (k : Nat) (fa : Addr) (fd : FuncData), FnG X.prog X.w X.K X.mg X.base (L2.CX X.prog X.w) k fa fd ps (spOf W ps.length g) ∧ Room k X.A ∧ X.mg x = some (.ref fa) ∧ PySem.W.keepIn X.K (.ref fa) = true ∧ Simple fd ps
def callOf (ps : List Str) (g : List D → M D) (xs : List D) (ks : List (Str × D)) : M D := if bindOk ps xs.length (ks.map (·.1)) then g (bindA ps xs ks) else stk
def kwOk : List Keyword → List Str → Bool
  | [], [] => true
  | k :: kws, n :: ns => decide (k.arg = some n) && kwOk kws ns
  | _, _ => false
section
variable {X : Cx} {W : Wd} {z : En} {Wx : WX} {m m' : List Addr} {ow : Ow} {ρ : Env} {A A' : AH} {σ : L2.St} {H H' : Hp} {bb : Bool} {e : Expr} {f : Env → M D} {fl fk : Env → M (List D)} {es : List Expr} {pos p : Pos} {x : Str} {kws : List Keyword} {kn ps : List Str} {Q : VK} {g : List D → M D}
theorem kw_all {E : PySem.Env} : ∀ {kws : List Keyword} {kn : List Str}, kwOk kws kn = true → (backToKw pos (keywordEach kws E)).all (·.1.isSome) = true
  | [], _, _ => rfl
  | _ :: _, [], h => by cases h
  | ⟨a, e, p⟩ :: kws, n :: ns, h => by
    obtain ⟨h1, h2⟩ := Bool.and_eq_true_iff.mp h
    have h1 : a = some n := of_decide_eq_true h1
    subst h1
    show (true && (backToKw pos (keywordEach kws E)).all (·.1.isSome)) = true
    rw [kw_all h2]
    rfl
theorem kw_none {E : PySem.Env} : ∀ {kws : List Keyword} {kn : List Str}, kwOk kws kn = true → (backToKw pos (keywordEach kws E)).any (·.1.isNone) = false
  | [], _, _ => rfl
  | _ :: _, [], h => by cases h
  | ⟨a, e, p⟩ :: kws, n :: ns, h => by
    obtain ⟨h1, h2⟩ := Bool.and_eq_true_iff.mp h
    have h1 : a = some n := of_decide_eq_true h1
    subst h1
    show (false || (backToKw pos (keywordEach kws E)).any (·.1.isNone)) = false
    rw [kw_none h2]
    rfl
theorem kw_names {E : PySem.Env} : ∀ {kws : List Keyword} {kn : List Str}, kwOk kws kn = true → (backToKw pos (keywordEach kws E)).filterMap (·.1) = kn
  | [], [], _ => rfl
  | [], _ :: _, h => by cases h
  | _ :: _, [], h => by cases h
  | ⟨a, e, p⟩ :: kws, n :: ns, h => by
    obtain ⟨h1, h2⟩ := Bool.and_eq_true_iff.mp h
    have h1 : a = some n := of_decide_eq_true h1
    subst h1
    show n :: (backToKw pos (keywordEach kws E)).filterMap (·.1) = n :: ns
    rw [kw_names h2]
abbrev GK (X : Cx) (W : Wd) (z : En) (Wx : WX) (kws : List Keyword) (f : Env → M (List D)) : Prop := PK X kws (TG W z Wx (RpsX false W) f)
theorem pk_weak {kws : List Keyword} {t t' : TA} (h : PK X kws t) (w : ∀ σ H Q, t' σ H Q → t σ H Q) : PK X kws t' := ⟨fun pos pins s σ H Q I q => h.run pos pins s σ H Q I (w σ H Q q)⟩
theorem gk_nil : GK X W z Wx [] (fun _ => M.pure []) := pk_weak pk_nil fun σ H Q ⟨m, ow, ρ, A, S, q⟩ => OutG.now S q rfl
theorem gk_cons {nm : Option Str} {kpos : Pos} (h : GE X W z Wx false e f) (h2 : GK X W z Wx kws fl) : GK X W z Wx (⟨nm, e, kpos⟩ :: kws) (fun ρ => (f ρ).bind fun x => (fl ρ).bind fun t => M.pure (x :: t)) :=
  pk_weak (pk_cons h h2) fun σ H Q ⟨m, ow, ρ, A, S, q⟩ => by
    refine tg_then (fa := f) S q fun m1 H1 A1 x v s1 S1 r1 q1 => tg_then (fa := fl) S1 q1 fun m2 H2 A2 t vs s2 S2 r2 q2 => ?_
    exact OutG.now S2 q2 ⟨v, vs, rfl, r1.mono S1 s2, r2⟩
theorem filt_len {α : Type} {L : List (Str × α)} : ∀ {ps : List Str}, (∀ n ∈ ps, (L.lookup n).isNone = false) → (ps.filterMap fun n => L.lookup n).length = ps.length
  | [], _ => rfl
  | p :: ps, h => by
    have h1 := h p List.mem_cons_self
    cases e : L.lookup p with
    | none => rw [e] at h1; cases h1
    | some v =>
      rw [List.filterMap_cons, e]
      simp [filt_len fun m hm => h m (List.mem_cons_of_mem _ hm)]
theorem stk_out {α β : Type} {rp : Rp α β} {Q : β → Hp → Prop} (h : OutG W z Wx rp m ow ρ σ H Q (stk A)) : False := h
/-- the callee, from the values -/
theorem call_end (F : FnC X W x ps g) (hgd : X.A.guards = some []) (tk : L2.Takes X Wx) {fa : Value} (hm : X.mg x = some fa) {pins : List (Addr × Obj)} {s : Shared} {us ws : List Value} {vs zs : List V} {ds ks : List D} (I : Inv X pins σ H s) (r : Vals vs us) (rz : Vals zs ws)
    (S : SRel W z m ow ρ A σ H) (rd : Reps W (muOf z.mu m ow) m H ds vs) (rk : Reps W (muOf z.mu m ow) m H ks zs) (hl : kn.length = ks.length) (q : OutE W z Wx bb m ow ρ σ H Q (callOf ps g ds (kn.zip ks) A)) :
    wpAny (model X.prog X.w) X.A (call fa us (kn.zip ws)) (EP X pins σ Q) X.xe s := by
  obtain ⟨k, a, fd, FG, hr, hm', hk, sm⟩ := F.ex
  rw [hm] at hm'
  cases hm'
  unfold callOf at q
  have zk : (kn.zip ks).map (·.1) = kn := by rw [zip_fst (by omega), ← hl, List.take_length]
  rw [zk] at q
  by_cases ok : bindOk ps ds.length kn = true
  · rw [if_pos ok] at q
    have lw : ws.length = kn.length := by rw [hl, rk.length, rz.length]
    have lu : us.length = ds.length := by rw [rd.length, r.length]
    have bt := bind_to sm lu lw ok
    have fv : F2 RelV (bindA ps vs (kn.zip zs)) (bindA ps us (kn.zip ws)) := F2.bind (F2.vals.mpr r) (F2.vals.mpr rz)
    have fr : F2 (Rep W (muOf z.mu m ow) m H) (bindA ps ds (kn.zip ks)) (bindA ps vs (kn.zip zs)) := F2.bind (F2.reps.mpr rd) (F2.reps.mpr rk)
    have hl' : (bindA ps vs (kn.zip zs)).length = ps.length := by
      rw [← fr.length]
      unfold bindA
      have pres : ∀ n ∈ ps, ((ps.zip ds ++ kn.zip ks).lookup n).isNone = false := fun n hn => by
        unfold bindOk at ok
        simp only [Bool.and_eq_true, decide_eq_true_eq, List.all_eq_true, Bool.not_eq_true', List.contains_iff_mem] at ok
        obtain ⟨⟨⟨a1, a2⟩, a3⟩, a4⟩ := ok
        refine lookup_some ?_
        rw [List.map_append, zk, zip_fst a1, List.mem_append]
        by_cases q : n ∈ ps.take ds.length
        · exact .inl q
        · refine .inr (a4 n ?_)
          rw [← List.take_append_drop ds.length ps, List.mem_append] at hn
          exact hn.resolve_left q
      exact filt_len pres
    exact run_fnG FG hr hgd (.of_eq bt) (L2.passAt tk σ) I (F2.vals.mp fv) (OutG.call S hl' (F2.reps.mp fr) q)
  · rw [if_neg ok] at q
    exact (stk_out q).elim
/-- the keywords, then the callee -/
theorem call_kw (F : FnC X W x ps g) (hgd : X.A.guards = some []) (tk : L2.Takes X Wx) {fa : Value} (hm : X.mg x = some fa) (hk : GK X W z Wx kws fk) (hkw : kwOk kws kn = true) {pins : List (Addr × Obj)} {s1 : Shared} {us : List Value} {vs : List V} {ds : List D}
    (I1 : Inv X pins σ H s1) (r1 : Vals vs us) (S1 : SRel W z m ow ρ A σ H) (rd : Reps W (muOf z.mu m ow) m H ds vs) (q1 : OutE W z Wx bb m ow ρ σ H Q (((fk ρ).bind fun ks => (grd (decide (ks.length = kn.length))).bind fun _ => callOf ps g ds (kn.zip ks)) A)) :
    wpAny (model X.prog X.w) X.A (evalAll ((backToKw pos (keywordEach kws X.env)).map (·.2))) (fun ks s₂ => X.K.In s₂.heap ∧ wpAny (model X.prog X.w) X.A (call fa us (((backToKw pos (keywordEach kws X.env)).filterMap (·.1)).zip ks)) (EP X pins σ Q) X.xe s₂) X.xe s1 := by
  refine thn (hk.run pos pins s1 σ H (fun zs H2 => ∃ m2 A2 ks, SRel W z m2 ow ρ A2 σ H2 ∧ Reps W (muOf z.mu m2 ow) m2 H2 ds vs ∧ Reps W (muOf z.mu m2 ow) m2 H2 ks zs ∧ ks.length = kn.length ∧ OutE W z Wx bb m2 ow ρ σ H2 Q (callOf ps g ds (kn.zip ks) A2)) I1 ?_) fun ws s2 ⟨zs, H2, I2, rz, m2, A2, ks, S2, rd2, rk, hl, q2⟩ => ⟨I2.kIn, ?_⟩
  · refine tg_then (fa := fk) S1 q1 fun m2 H2 A2 ks zs s2 S2 r2 q2 => ?_
    obtain ⟨c, q3⟩ := grdb q2
    exact ⟨m2, A2, ks, S2, rd.mono s2.le S1.ok s2.pre, rpsX_f r2, of_decide_eq_true c, q3⟩
  · rw [kw_names hkw]
    exact call_end F hgd tk hm I2 r1 rz S2 rd2 rk hl.symm q2
theorem ge_call (F : FnC X W x ps g) (hgd : X.A.guards = some []) (tk : L2.Takes X Wx) (hg : Gl X x) (hdb : (x == ("__debug__" : Str)) = false) (ha : GA X W z Wx false (e :: es) fl) (hk : GK X W z Wx kws fk) (hn : nsts (e :: es) = true) (hkw : kwOk kws kn = true) :
    GE X W z Wx bb (.Call (.Name x p) (e :: es) kws pos) (fun ρ => (fl ρ).bind fun xs => (fk ρ).bind fun ks => (grd (decide (ks.length = kn.length))).bind fun _ => callOf ps g xs (kn.zip ks)) := by
  refine ⟨fun pins s σ H Q I ⟨m, ow, ρ, A, S, q⟩ => ?_⟩
  obtain ⟨k, a, fd, FG, hr, hm, hkp, sm⟩ := id F.ex
  refine wpAny_Call_Name_kw (ld_glob I hg hm ?_ hdb)
  obtain ⟨n1, n2⟩ := Bool.and_eq_true_iff.mp hn
  refine PySem.W.callWith_KW (h₀ := X.base) I.ok.mod.kin hkp (kw_all hkw) ?_ (by rw [nsts_any hn, kw_none hkw]; rfl) (nst_eq n1)
  refine thn (ha.run pos pins s σ H (fun vs H1 => ∃ m1 A1 ds, SRel W z m1 ow ρ A1 σ H1 ∧ Reps W (muOf z.mu m1 ow) m1 H1 ds vs ∧ OutE W z Wx bb m1 ow ρ σ H1 Q (((fk ρ).bind fun ks => (grd (decide (ks.length = kn.length))).bind fun _ => callOf ps g ds (kn.zip ks)) A1)) I ?_) fun us s1 ⟨vs, H1, I1, r1, m1, A1, ds, S1, rd, q1⟩ => ?_
  · exact tg_then (fa := fl) S q fun m1 H1 A1 ds vs s1 S1 r1 q1 => ⟨m1, A1, ds, S1, rpsX_f r1, q1⟩
  · exact call_kw F hgd tk hm hk hkw I1 r1 S1 rd q1
theorem ge_call0 (F : FnC X W x ps g) (hgd : X.A.guards = some []) (tk : L2.Takes X Wx) (hg : Gl X x) (hdb : (x == ("__debug__" : Str)) = false) (hk : GK X W z Wx kws fk) (hkw : kwOk kws kn = true) :
    GE X W z Wx bb (.Call (.Name x p) [] kws pos) (fun ρ => (M.pure []).bind fun xs => (fk ρ).bind fun ks => (grd (decide (ks.length = kn.length))).bind fun _ => callOf ps g xs (kn.zip ks)) := by
  refine ⟨fun pins s σ H Q I ⟨m, ow, ρ, A, S, q⟩ => ?_⟩
  obtain ⟨k, a, fd, FG, hr, hm, hkp, sm⟩ := id F.ex
  refine wpAny_Call_Name_kw (ld_glob I hg hm ?_ hdb)
  exact PySem.W.callWith_KW0 (h₀ := X.base) I.ok.mod.kin hkp (kw_all hkw) (call_kw (ds := []) F hgd tk hm hk hkw I .nil S (show Reps W (muOf z.mu m ow) m H [] [] from rfl) q) (by show (false || _) = false; rw [kw_none hkw]; rfl)
end
end Ev
end
section
set_option maxHeartbeats 2000000
namespace Ev
open PySem PySem.Spec PyProof.Rows L2
/-! ### enumerate(v), v a tuple -/
theorem meets_enum1 {v : Value} {o : Obj} {G : Heap → Prop} (B : Begins v o G) : Meets (Builtin.«enumerate.__new__» ⟨[.type "enumerate", v], []⟩) (fun _ R s => G s.heap ∧
      R (.ok (.ret (.ref (s.heap.push o).objs.size))) { s with heap := (s.heap.push o).push { cls := .type "enumerate", data := .fields #[.none, .bool false, .ref s.heap.objs.size, rawInt 0, .none, .none] } }) :=
  .of_wp fun prog w A R s h => by
    obtain ⟨hp, gs, dr, tk, os⟩ := s
    obtain ⟨hG, h⟩ := h
    have isE := sub_enumerate
    have step : ∀ {A' : Around} {E : Value → Shared → Prop} {Q : Value → Shared → Prop}, Q (.ref hp.objs.size) ⟨hp.push o, gs, dr, tk, os⟩ → wpAny (model prog w) A' (pyIter v) Q E ⟨hp, gs, dr, tk, os⟩ := fun q => B.iter prog w _ _ ⟨hp, gs, dr, tk, os⟩ _ hG q
    wp_walk using step
    refine wpAny_stack_any fun st => wpAny_pure ?_
    split
    · rename_i c _ _ _ _ _
      cases (c == Value.type "enumerate") <;> (wp_walk using step; exact ⟨_, rfl, h⟩)
    · wp_walk using step
      exact ⟨_, rfl, h⟩
theorem enum_made {prog : Program} {w : World} {A : Around} {E : Value → Shared → Prop} {s : Shared} {v : Value} {o : Obj} {G : Heap → Prop} {Q : Value → Shared → Prop} (B : Begins v o G) (hG : G s.heap)
    (h : ∀ h', IsEnum h' (s.heap.objs.size + 1) s.heap.objs.size 0 .none → h'.get? s.heap.objs.size = some o → (∀ b u, s.heap.get? b = some u → h'.get? b = some u) → Q (.ref (s.heap.objs.size + 1)) { s with heap := h' }) :
    wpAny (model prog w) A (call (.type "enumerate") [v]) Q E s := by
  refine callType_new F.called_enumerate (by decide) (F.typeCall_enumerate_1 _) (F.newCall_enumerate_1 _) (fun obj => F.args_object_init_2 obj _) F.entry_enumerate_new (meets_enum1 B) ⟨hG, ?_⟩
  have sz : (s.heap.push o).objs.size = s.heap.objs.size + 1 := Heap.size_push ..
  show _ ∧ _
  rw [sz]
  have en : IsEnum ((s.heap.push o).push { cls := .type "enumerate", data := .fields #[.none, .bool false, .ref s.heap.objs.size, rawInt 0, .none, .none] }) (s.heap.objs.size + 1) s.heap.objs.size 0 .none := by
    have z := Heap.get?_push_size (s.heap.push o) (o := { cls := .type "enumerate", data := .fields #[.none, .bool false, .ref s.heap.objs.size, rawInt 0, .none, .none] }) rfl
    rw [sz] at z
    exact z
  exact ⟨⟨_, en, rfl⟩, h _ en (Heap.get?_push_of_some _ (Heap.get?_push_size _ B.free)) fun b u x => Heap.get?_push_of_some _ (Heap.get?_push_of_some _ x)⟩
theorem enum_endT {prog : Program} {w : World} {A : Around} {E : Value → Shared → Prop} {s : Shared} {e it t : Addr} {i : Nat} {items : Array Value} {old : Value} {Q : Option Value → Shared → Prop} (hh : A.handled = none) (he : IsEnum s.heap e it i old) (hit : s.heap.IsTupleIter it t i) (ht : s.heap.IsTuple t items) (hx : items[i]? = none)
    (h : ∀ h', Heap.ExtBut it s.heap h' → Q none { s with heap := h' }) : wpAny (model prog w) A (pyNext (.ref e)) Q E s := by
  have ty : s.TypeIs (.ref e) "enumerate" := ⟨_, he, rfl⟩
  unfold pyNext
  refine wpAny_bind (wpAny_attempt (wpAny_callSpecial?_slot (name := Str.ofString "__next__") ty F.slot_enumerate_next
    (wpAny_call_entry F.slot_enumerate_next ty F.entry_enumerate_next ?_ (F.args_enumerate_next_1 _))))
  show wpAny _ _ (field (.ref e) 2 >>= _) _ _ _
  refine wpAny_bind (wpAny_field he rfl (x := .ref it) rfl ?_)
  refine wpAny_bind (wpAny_nextOf_tuple_end hh hit ht hx fun h' x he' hx' => ?_)
  obtain ⟨o, ho, hc⟩ := hx'
  exact wpAny_bind (wpAny_isInstance (T := "StopIteration") (b := true) ⟨o, ho, hc⟩ isSubtype_stop (wpAny_pure (h _ he')))
/-- the tuple at a, each item in a new pair -/
def IteT (K : PySem.W.Frag) (a : Addr) : It where
  go := fun i H => ∃ (xs : List V) (x : V), SqT K H a xs ∧ xs[i]? = some x
  yld := fun i H v H' => ∃ T x, v = .ref T ∧ H T = none ∧ H' = upd H T (.tup [.int (i : Nat), x]) ∧ ∀ xs, SqT K H a xs → xs[i]? = some x
  stop := fun i H => ∃ xs : List V, SqT K H a xs ∧ xs.length ≤ i
theorem turn_enumT {P : Program} {w : World} {K : PySem.W.Frag} {elts : List Expr} {kk : Nat} {tpos : Pos} (a e it : Addr) :
    Turn P w K (.Tuple elts kk tpos) (IteT K a) [e, it] e (fun i h => (∃ old, IsEnum h e it ((i : Nat) : Int) old) ∧ h.IsTupleIter it a i ∧ e ≠ it ∧ a ≠ it ∧ a ≠ e) where
  mem := by simp
  obj := by
    rintro i h ⟨⟨old, he⟩, ⟨o, ho, hc, hd⟩, _⟩ b hb
    have hb : b = e ∨ b = it := by simpa using hb
    rcases hb with rfl | rfl
    · exact ⟨_, he, fun v q => nomatch q⟩
    · exact ⟨o, ho, fun v q => by rw [hd] at q; cases q⟩
  keep := by
    rintro i h h' ⟨⟨old, he⟩, hi, hne⟩ k
    exact ⟨⟨old, k e (by simp) _ he⟩, hi.at fun o q => k it (by simp) o q, hne⟩
  item := by
    intro X hP hw hK hc i pins s σ H E I hf st hg
    subst hP hw hK
    obtain ⟨⟨old, he⟩, hit, hne, ha1, ha2⟩ := st
    obtain ⟨xs, x, hq, hx⟩ := hg
    obtain ⟨its, rv, p, hz⟩ := I.tuple hq
    obtain ⟨u, hu, ru⟩ := rv.get hx
    have D := Draws.tuple (prog := X.prog) (w := X.w) (A := X.A.in1) (I.ok.hd hc) it a ha1 its.toArray
    have hel : e < s.heap.objs.size := Heap.lt_size he
    have hil : it < s.heap.objs.size := by obtain ⟨_, q, _⟩ := hit; exact Heap.lt_size q
    have hi : i < its.toArray.size := by
      have := (List.getElem?_eq_some_iff.mp hu).1
      simpa using this
    refine wpAny_pyNext_enum_itemD D he ⟨hit, p⟩ hi hne (by simp [hne, ha2.symm]) fun y h' tk hy ho hst hT hsz hk => ?_
    have ey : y = u := by
      have hy : its.toArray[i]? = some y := hy
      rw [List.getElem?_toArray, hu] at hy
      exact (Option.some.inj hy).symm
    subst ey
    refine ⟨_, rfl, wpAny_letOwnedTupleGo_enum (s := { s with heap := h', toks := tk + 1 }) ho fun h'' he' sb => ?_⟩
    have hT2 : h''.get? s.heap.objs.size = some { cls := .type "tuple", data := .seq #[.int i tk, y] } := (sb.2 _ (Nat.ne_of_gt hel)).trans hT
    have new : ObjOk X.prog X.w (upd H s.heap.objs.size (.tup [.int (i : Nat), x])) h'' s.heap.objs.size (.tup [.int (i : Nat), x]) :=
      ⟨by show 2 ≤ sizeLine; decide, [.int i tk, y], .cons ⟨_, rfl⟩ (.cons ru .nil), ⟨_, hT2, rfl, _, rfl⟩⟩
    have two : ∀ {b}, b ∉ [e, it] → b ≠ e ∧ b ≠ it := fun hb => by simpa using hb
    have I1 : Inv X pins σ (upd H s.heap.objs.size (.tup [.int (i : Nat), x])) { s with heap := h'', toks := tk + 1 } :=
      I.turnedNew (ch := [e, it]) (fun b ob hb q => (sb.2 b (two hb).1).trans (hk b ob (two hb).1 (two hb).2 q)) hf (Nat.le_refl _) new
    refine ⟨.ref s.heap.objs.size, _, I1, rfl, ⟨_, x, rfl, I.hok.fresh (Nat.le_refl _), rfl, fun ys hy => by rw [I.tuple_inj hy hq]; exact hx⟩, ⟨⟨y, ?_⟩, hst.1.at fun o q => (sb.2 it (Ne.symm hne)).trans q, hne, ha1, ha2⟩, fun b hb => ?_⟩
    · have e1 : ((i + 1 : Nat) : Int) = (i : Int) + 1 := by omega
      rw [e1]
      exact he'
    · have hb' : b < s.heap.objs.size := by
        have hb2 : b = e ∨ b = it := by simpa using hb
        rcases hb2 with z | z
        · rw [z]; exact hel
        · rw [z]; exact hil
      rw [upd_ne (Nat.ne_of_lt hb')]
      exact (hf b hb).1
  done := by
    intro X hP hw hK hc i pins s σ H E I hf st hg
    subst hP hw hK
    obtain ⟨⟨old, he⟩, hit, hne, ha1, ha2⟩ := st
    obtain ⟨xs, hq, hx⟩ := hg
    obtain ⟨its, rv, p, hz⟩ := I.tuple hq
    obtain ⟨f0, f1, f2, f3, f4, f5⟩ := hf it (by simp)
    have hl := rv.length
    refine enum_endT (I.ok.hd hc) he hit p (by simp; omega) fun h' eb => ⟨rfl, I.turned (t' := s.toks) (fun b o hb q => eb b o hb q) f0 f1 f3 f4 f5⟩
  self := fun A i s Q E st h => let ⟨⟨_, he⟩, _⟩ := st; wpAny_pyIter_enum he h
def iEnumA (K : PySem.W.Frag) (ta : TA) : TI := fun σ H R => ta σ H fun vs H1 => ∃ a xs, vs = [.ref a] ∧ ((SqL K H1 a xs ∧ R (L2.Ite K a) H1) ∨ (SqT K H1 a xs ∧ R (IteT K a) H1))
theorem pi_enumA {X : Cx} {e : Expr} {ta : TA} {p pos tpos : Pos} {elts : List Expr} {kk : Nat} (hg : Gl X "enumerate") (hm : X.mg "enumerate" = none) (ha : PA X [e] ta) (hs : starEach [e] X.env = [(false, eval e X.env)]) :
    PI X (.Tuple elts kk tpos) (.Call (.Name "enumerate" p) [e] [] pos) (iEnumA X.K ta) := by
  refine ⟨fun pins s σ H R I h => ?_⟩
  refine Call_ (ld_blt I hg hm boot_enumerate (PyProof.Rows.callWith_type1 (thn (ha.run pos pins s σ H _ I h) fun us s1 ⟨vs, H1, I1, r1, q1⟩ => ?_) hs rfl))
  obtain ⟨a, xs, ex, q1⟩ := q1
  subst ex
  cases r1 with
  | cons r rr =>
    cases rr
    cases r
    have fresh : ∀ b, b ∈ [s1.heap.objs.size + 1, s1.heap.objs.size] → FpOk X pins H1 b := fun b hb => by
      have hb : b = s1.heap.objs.size + 1 ∨ b = s1.heap.objs.size := by simpa using hb
      have le : s1.heap.objs.size ≤ b := by
        rcases hb with z | z
        · rw [z]; exact Nat.le_add_right _ _
        · rw [z]; exact Nat.le_refl _
      exact I1.fpOk le (I1.hok.fresh le)
    rcases q1 with ⟨hq, q⟩ | ⟨hq, q⟩
    · obtain ⟨its, rv, pl, _⟩ := I1.list hq
      refine enum_made (begins_list a its.toArray) pl.isList fun h' he ho hk => wpAny_pyIter_enum he ?_
      have I2 : Inv X pins σ H1 { s1 with heap := h' } := I1.kept (t' := s1.toks) hk
      exact ⟨_, _, _, _, H1, rfl, I2, turn_enum a (s1.heap.objs.size + 1) s1.heap.objs.size, ⟨⟨.none, he⟩, ⟨_, ho, rfl, rfl⟩, Nat.succ_ne_self _⟩, fresh, q⟩
    · obtain ⟨its, rv, pt, _⟩ := I1.tuple hq
      refine enum_made (begins_tuple a its.toArray) pt fun h' he ho hk => wpAny_pyIter_enum he ?_
      have I2 : Inv X pins σ H1 { s1 with heap := h' } := I1.kept (t' := s1.toks) hk
      have al : a < s1.heap.objs.size := by obtain ⟨o, q, _⟩ := pt; exact Heap.lt_size q
      exact ⟨_, _, _, _, H1, rfl, I2, turn_enumT a (s1.heap.objs.size + 1) s1.heap.objs.size, ⟨⟨.none, he⟩, ⟨_, ho, rfl, rfl⟩, Nat.succ_ne_self _, Nat.ne_of_lt al, Nat.ne_of_lt (Nat.lt_succ_of_lt al)⟩, fresh, q⟩
end Ev
end
section
set_option maxHeartbeats 2000000
namespace Ev
open PySem PySem.Spec PyProof.Rows L2
/-! ### zip of a list and a tuple, of any two -/
def SqK (k : Bool) (K : PySem.W.Frag) (H : Hp) (a : Addr) (vs : List V) : Prop := match k with
  | true => SqT K H a vs
  | false => SqL K H a vs
def IterK (k : Bool) (h : Heap) (it a : Addr) (i : Nat) : Prop := match k with
  | true => h.IsTupleIter it a i
  | false => h.IsListIter it a i
def IsK (k : Bool) (h : Heap) (a : Addr) (items : Array Value) : Prop := match k with
  | true => h.IsTuple a items
  | false => h.IsList a items
def iterO (k : Bool) (a : Addr) : Obj := match k with
  | true => { cls := .type "tuple_iterator", data := .fields #[.ref a, .int 0 0] }
  | false => { cls := .type "list_iterator", data := .fields #[.ref a, .int 0 0] }
theorem drawsK {prog : Program} {w : World} {A : Around} (k : Bool) (hh : A.handled = none) (it a : Addr) (hne : a ≠ it) (items : Array Value) : Draws prog w A it [it, a] items.size (fun i v => items[i]? = some v) (fun i h => IterK k h it a i ∧ IsK k h a items) := by
  cases k
  · exact Draws.list hh it a hne items
  · exact Draws.tuple hh it a hne items
theorem beginsK (k : Bool) (a : Addr) (items : Array Value) : Begins (.ref a) (iterO k a) fun h => IsK k h a items := by
  cases k
  · exact begins_list a items
  · exact begins_tuple a items
theorem iterK_at {k : Bool} {h h' : Heap} {it a : Addr} {i : Nat} (H : IterK k h it a i) (e : ∀ o, h.get? it = some o → h'.get? it = some o) : IterK k h' it a i := by
  cases k
  · exact Heap.IsListIter.at H e
  · exact Heap.IsTupleIter.at H e
theorem iterK_obj {k : Bool} {h : Heap} {it a : Addr} {i : Nat} (H : IterK k h it a i) : ∃ o, h.get? it = some o ∧ ∀ v, o.data ≠ .cell v := by
  cases k
  · obtain ⟨o, ho, _, hd⟩ := H
    exact ⟨o, ho, fun v q => by rw [hd] at q; cases q⟩
  · obtain ⟨o, ho, _, hd⟩ := H
    exact ⟨o, ho, fun v q => by rw [hd] at q; cases q⟩
theorem iterK_new (k : Bool) {h : Heap} {it a : Addr} (e : h.get? it = some (iterO k a)) : IterK k h it a 0 := by
  cases k
  · exact ⟨_, e, rfl, rfl⟩
  · exact ⟨_, e, rfl, rfl⟩
theorem seqK {X : Cx} {pins : List (Addr × Obj)} {σ : L2.St} {H : Hp} {s : Shared} (I : Inv X pins σ H s) {k : Bool} {a : Addr} {vs : List V} (h : SqK k X.K H a vs) : ∃ its : List Value, Vals vs its ∧ IsK k s.heap a its.toArray ∧ a < s.heap.objs.size := by
  cases k
  · obtain ⟨its, rv, p, _⟩ := I.list h
    exact ⟨its, rv, p.isList, p.lt⟩
  · obtain ⟨its, rv, p, _⟩ := I.tuple h
    have p' : s.heap.IsTuple a its.toArray := p
    obtain ⟨o, q, _⟩ := id p'
    exact ⟨its, rv, p', Heap.lt_size q⟩
theorem seqK_inj {X : Cx} {pins : List (Addr × Obj)} {σ : L2.St} {H : Hp} {s : Shared} (I : Inv X pins σ H s) {k : Bool} {a : Addr} {vs us : List V} (h1 : SqK k X.K H a vs) (h2 : SqK k X.K H a us) : vs = us := by
  cases k
  · exact I.list_inj h1 h2
  · exact I.tuple_inj h1 h2
def ItzM (K : PySem.W.Frag) (k1 k2 : Bool) (a b : Addr) : It where
  go := fun i H => ∃ (xs ys : List V) (x y : V), SqK k1 K H a xs ∧ SqK k2 K H b ys ∧ xs[i]? = some x ∧ ys[i]? = some y
  yld := fun i H v H' => ∃ T x y, v = .ref T ∧ H T = none ∧ H' = upd H T (.tup [x, y]) ∧ (∀ xs, SqK k1 K H a xs → xs[i]? = some x) ∧ ∀ ys, SqK k2 K H b ys → ys[i]? = some y
  stop := fun i H => ∃ xs ys : List V, SqK k1 K H a xs ∧ SqK k2 K H b ys ∧ i ≤ xs.length ∧ i ≤ ys.length ∧ (i = xs.length ∨ i = ys.length)
theorem turn_zipM {P : Program} {w : World} {K : PySem.W.Frag} {elts : List Expr} {kk : Nat} {tpos : Pos} {k1 k2 : Bool} {a b z TI TO i1 i2 : Addr} (D : ZipSep2 z TI TO i1 i2 [i1, a] [i2, b]) (ha : a ≠ i1) (hb : b ≠ i2) (h12 : i1 ≠ i2) :
    Turn P w K (.Tuple elts kk tpos) (ItzM K k1 k2 a b) [z, TI, TO, i1, i2] z (fun i h => IsZip h z TI TO .none ∧ IsTupOf2 h TI (.ref i1) (.ref i2) ∧ (∃ x y, IsTupOf2 h TO x y) ∧ IterK k1 h i1 a i ∧ IterK k2 h i2 b i) where
  mem := by simp
  obj := by
    rintro i h ⟨hz, hTI, ⟨x, y, hTO⟩, j1, j2⟩ c hc
    have hc : c = z ∨ c = TI ∨ c = TO ∨ c = i1 ∨ c = i2 := by simpa using hc
    rcases hc with rfl | rfl | rfl | rfl | rfl
    · exact ⟨_, hz, fun v q => nomatch q⟩
    · exact ⟨_, hTI, fun v q => nomatch q⟩
    · exact ⟨_, hTO, fun v q => nomatch q⟩
    · exact iterK_obj j1
    · exact iterK_obj j2
  keep := by
    rintro i h h' ⟨hz, hTI, ⟨x, y, hTO⟩, j1, j2⟩ k
    exact ⟨k z (by simp) _ hz, k TI (by simp) _ hTI, ⟨x, y, k TO (by simp) _ hTO⟩, iterK_at j1 fun o q => k i1 (by simp) o q, iterK_at j2 fun o q => k i2 (by simp) o q⟩
  item := by
    intro X hP hw hK hc i pins s σ H E I hf st hg
    subst hP hw hK
    obtain ⟨hz, hTI, ⟨x0, y0, hTO⟩, j1, j2⟩ := st
    obtain ⟨xs, ys, x, y, hqx, hqy, hx, hy⟩ := hg
    obtain ⟨its, rv, p1, _⟩ := seqK I hqx
    obtain ⟨its2, rv2, p2, _⟩ := seqK I hqy
    obtain ⟨u, hu, ru⟩ := rv.get hx
    obtain ⟨u2, hu2, ru2⟩ := rv2.get hy
    have D1 := drawsK (prog := X.prog) (w := X.w) (A := X.A.in1) k1 (I.ok.hd hc) i1 a ha its.toArray
    have D2 := drawsK (prog := X.prog) (w := X.w) (A := X.A.in1) k2 (I.ok.hd hc) i2 b hb its2.toArray
    have hzl : z < s.heap.objs.size := Heap.lt_size hz
    have l1 : i < its.toArray.size := by
      have := (List.getElem?_eq_some_iff.mp hu).1
      simpa using this
    have l2 : i < its2.toArray.size := by
      have := (List.getElem?_eq_some_iff.mp hu2).1
      simpa using this
    refine wpAny_pyNext_zipD2_item D D1 D2 hz hTI hTO ⟨j1, p1⟩ ⟨j2, p2⟩ l1 l2 fun a1 a2 h' tk e1 e2 z' TO' q1 q2 hT hsz hk => ?_
    have f1 : a1 = u := by
      have e1 : its.toArray[i]? = some a1 := e1
      rw [List.getElem?_toArray, hu] at e1
      exact (Option.some.inj e1).symm
    have f2 : a2 = u2 := by
      have e2 : its2.toArray[i]? = some a2 := e2
      rw [List.getElem?_toArray, hu2] at e2
      exact (Option.some.inj e2).symm
    subst f1 f2
    refine ⟨_, rfl, wpAny_letOwnedTupleGo_zip (s := { s with heap := h', toks := tk }) z' fun h'' z'' sb => ?_⟩
    have hT2 : h''.get? s.heap.objs.size = some { cls := .type "tuple", data := .seq #[a1, a2] } := (sb.2 _ (Nat.ne_of_gt hzl)).trans hT
    have new : ObjOk X.prog X.w (upd H s.heap.objs.size (.tup [x, y])) h'' s.heap.objs.size (.tup [x, y]) :=
      ⟨by show 2 ≤ sizeLine; decide, [a1, a2], .cons ru (.cons ru2 .nil), ⟨_, hT2, rfl, _, rfl⟩⟩
    have five : ∀ {c}, c ∉ [z, TI, TO, i1, i2] → c ≠ z ∧ c ≠ TO ∧ c ≠ i1 ∧ c ≠ i2 := fun {c} hc => by
      simp only [List.mem_cons, List.not_mem_nil, or_false, not_or] at hc
      exact ⟨hc.1, hc.2.2.1, hc.2.2.2.1, hc.2.2.2.2⟩
    have I1 : Inv X pins σ (upd H s.heap.objs.size (.tup [x, y])) { s with heap := h'', toks := tk } :=
      I.turnedNew (ch := [z, TI, TO, i1, i2]) (fun c ob hc q => (sb.2 c (five hc).1).trans (hk c ob (five hc).1 (five hc).2.1 (five hc).2.2.1 (five hc).2.2.2 q)) hf (Nat.le_refl _) new
    have nz1 : i1 ≠ z := D.zi1.symm
    have nz2 : i2 ≠ z := D.zi2.symm
    have hTI' : IsTupOf2 h'' TI (.ref i1) (.ref i2) := (sb.2 TI D.TIz).trans (hk TI _ D.TIz D.TITO D.TIi1 D.TIi2 hTI)
    refine ⟨.ref s.heap.objs.size, _, I1, rfl, ⟨_, x, y, rfl, I.hok.fresh (Nat.le_refl _), rfl, fun vs hv => by rw [seqK_inj I hv hqx]; exact hx, fun vs hv => by rw [seqK_inj I hv hqy]; exact hy⟩, ⟨z'', hTI', ⟨_, _, (sb.2 TO D.TOz).trans TO'⟩, iterK_at q1.1 fun o q => (sb.2 i1 nz1).trans q, iterK_at q2.1 fun o q => (sb.2 i2 nz2).trans q⟩, fun c hc => ?_⟩
    have hc' : c < s.heap.objs.size := by
      have hc : c = z ∨ c = TI ∨ c = TO ∨ c = i1 ∨ c = i2 := by simpa using hc
      obtain ⟨o1, g1, _⟩ := iterK_obj j1
      obtain ⟨o2, g2, _⟩ := iterK_obj j2
      rcases hc with q | q | q | q | q
      · rw [q]; exact hzl
      · rw [q]; exact Heap.lt_size hTI
      · rw [q]; exact Heap.lt_size hTO
      · rw [q]; exact Heap.lt_size g1
      · rw [q]; exact Heap.lt_size g2
    rw [upd_ne (Nat.ne_of_lt hc')]
    exact (hf c hc).1
  done := by
    intro X hP hw hK hc i pins s σ H E I hf st hg
    subst hP hw hK
    obtain ⟨hz, hTI, ⟨x0, y0, hTO⟩, j1, j2⟩ := st
    obtain ⟨xs, ys, hqx, hqy, l1, l2, hend⟩ := hg
    obtain ⟨its, rv, p1, _⟩ := seqK I hqx
    obtain ⟨its2, rv2, p2, _⟩ := seqK I hqy
    have D1 := drawsK (prog := X.prog) (w := X.w) (A := X.A.in1) k1 (I.ok.hd hc) i1 a ha its.toArray
    have D2 := drawsK (prog := X.prog) (w := X.w) (A := X.A.in1) k2 (I.ok.hd hc) i2 b hb its2.toArray
    have n1 := rv.length
    have n2 := rv2.length
    refine wpAny_pyNext_zipD2_end D D1 D2 hz hTI hTO ⟨j1, p1⟩ ⟨j2, p2⟩ (by simp; omega) (by simp; omega) (by simp; omega) fun h' tk hk => ⟨rfl, ?_⟩
    exact I.turnedL (t' := tk) (ch := [z, TI, TO, i1, i2]) (fun c o hc q => hk c o (fun e => hc (by simp [e])) (fun e => hc (by simp [e])) (fun e => hc (by simp [e])) (fun e => hc (by simp [e])) q) hf
  self := fun A i s Q E st h => wpAny_pyIter_zip st.1 h
def iZipM (K : PySem.W.Frag) (ta : TA) : TI := fun σ H R => ta σ H fun vs H1 => ∃ k1 k2 a b xs ys, vs = [.ref a, .ref b] ∧ SqK k1 K H1 a xs ∧ SqK k2 K H1 b ys ∧ R (ItzM K k1 k2 a b) H1
theorem pi_zipM {X : Cx} {e e2 : Expr} {ta : TA} {p pos tpos : Pos} {elts : List Expr} {kk : Nat} (hg : Gl X "zip") (hm : X.mg "zip" = none) (ha : PA X [e, e2] ta) (hs : starEach [e, e2] X.env = (false, eval e X.env) :: starEach [e2] X.env) (hpl : (backTo pos (starEach [e2] X.env)).any (·.1) = false) :
    PI X (.Tuple elts kk tpos) (.Call (.Name "zip" p) [e, e2] [] pos) (iZipM X.K ta) := by
  refine ⟨fun pins s σ H R I h => ?_⟩
  refine Call_ (ld_blt I hg hm PyProof.Rows.boot_zip (PyProof.Rows.callWith_type1 (thn (ha.run pos pins s σ H _ I h) fun us s1 ⟨vs, H1, I1, r1, q1⟩ => ?_) hs hpl))
  obtain ⟨k1, k2, a, b, xs, ys, ex, hqx, hqy, q⟩ := q1
  subst ex
  cases r1 with
  | cons r rr =>
    cases rr with
    | cons r' rr =>
      cases rr
      cases r
      cases r'
      obtain ⟨its, rv, p1, al⟩ := seqK I1 hqx
      obtain ⟨its2, rv2, p2, bl⟩ := seqK I1 hqy
      refine zip_begins2 (beginsK k1 a its.toArray) (beginsK k2 b its2.toArray) p1 p2 fun h' hz hTI hTO g1 g2 hsz hk => wpAny_pyIter_zip hz ?_
      have I2 : Inv X pins σ H1 { s1 with heap := h' } := I1.kept (t' := s1.toks) hk
      have fresh : ∀ c, c ∈ [s1.heap.objs.size + 4, s1.heap.objs.size + 2, s1.heap.objs.size + 3, s1.heap.objs.size, s1.heap.objs.size + 1] → FpOk X pins H1 c := fun c hcm => by
        have hle : s1.heap.objs.size ≤ c := by
          simp only [List.mem_cons, List.not_mem_nil, or_false] at hcm
          rcases hcm with z | z | z | z | z
          · rw [z]; exact Nat.le_add_right _ _
          · rw [z]; exact Nat.le_add_right _ _
          · rw [z]; exact Nat.le_add_right _ _
          · rw [z]; exact Nat.le_refl _
          · rw [z]; exact Nat.le_add_right _ _
        exact I1.fpOk hle (I1.hok.fresh hle)
      have sep : ZipSep2 (s1.heap.objs.size + 4) (s1.heap.objs.size + 2) (s1.heap.objs.size + 3) s1.heap.objs.size (s1.heap.objs.size + 1) [s1.heap.objs.size, a] [s1.heap.objs.size + 1, b] :=
        zip_sep2 (fp1 := [a]) (fp2 := [b]) (fun c hc => by rw [List.mem_singleton.mp hc]; exact al) (fun c hc => by rw [List.mem_singleton.mp hc]; exact bl)
      exact ⟨s1.heap.objs.size + 4, [s1.heap.objs.size + 4, s1.heap.objs.size + 2, s1.heap.objs.size + 3, s1.heap.objs.size, s1.heap.objs.size + 1], _, _, H1, rfl, I2, turn_zipM sep (Nat.ne_of_lt al) (Nat.ne_of_lt (Nat.lt_succ_of_lt bl)) (Nat.ne_of_lt (Nat.lt_succ_self _)), ⟨hz, hTI, ⟨_, _, hTO⟩, iterK_new k1 g1, iterK_new k2 g2⟩, fresh, q⟩
end Ev
end
section
set_option maxHeartbeats 2000000
namespace Ev
open PySem PySem.Spec PyProof.Rows L2
/-- what a loop's turn has: an item, or a pair just made -/
def RepI (wk : Bool) (W : Wd) (mu : Addr → Prop) (m : List Addr) (H : Hp) (d : D) (v : V) : Prop := if wk then ∃ l p vs, d = .tup l ∧ v = .ref p ∧ SqT W.K H p vs ∧ Reps W mu m H l vs else Rep W mu m H d v
structure Sq (W : Wd) (wk : Bool) (ds : List D) (J : It) (mu : Addr → Prop) (m : List Addr) (H : Hp) : Prop where
  go : ∀ i d, ds[i]? = some d → J.go i H ∧ ∀ x H', J.yld i H x H' → Ld H H' ∧ RepI wk W mu m H' d x
  stop : J.stop ds.length H
def Kp (m : List Addr) (H H' : Hp) : Prop := ∀ a o, H a = some o → a ∉ m → H' a = some o
/-- the list stands through the loop -/
def SqR (b wk : Bool) (W : Wd) : Rp (List D) It := fun mu m H ds J => ∀ mu' m' H', Le mu H mu' H' → MuOk mu' H' → m <+: m' → (b = true → Kp m H H') → Sq W wk ds J mu' m' H'
abbrev GI (X : Cx) (W : Wd) (z : En) (Wx : WX) (b wk : Bool) (tg iter : Expr) (f : Env → M (List D)) : Prop := PI X tg iter (TG W z Wx (SqR b wk W) f)
theorem pi_weak {X : Cx} {tg iter : Expr} {t t' : TI} (h : PI X tg iter t) (w : ∀ σ H R, t' σ H R → t σ H R) : PI X tg iter t' := ⟨fun pins s σ H R I q => h.run pins s σ H R I (w σ H R q)⟩
def iSeq (K : PySem.W.Frag) (tl : TE) : TI := fun σ H R => tl σ H fun x H1 => ∃ a, x = .ref a ∧ (((∃ xs, SqL K H1 a xs) ∧ R (Itl K a) H1) ∨ ((∃ xs, SqT K H1 a xs) ∧ R (Itt K a) H1))
theorem pi_seq {X : Cx} {tg l : Expr} {tl : TE} (hl : PE X l tl) : PI X tg l (iSeq X.K tl) := by
  refine ⟨fun pins s σ H R I h => ?_⟩
  refine thn (hl.run pins s σ H _ I h) fun v s1 ⟨x, H1, I1, r1, a, e, q1⟩ => ?_
  subst e
  cases r1
  rcases q1 with ⟨⟨xs, hq⟩, q⟩ | ⟨⟨xs, hq⟩, q⟩
  · obtain ⟨its, rv, p, hz⟩ := I1.list hq
    refine wpAny_pyIter_list p.isList ?_
    exact pi_one (tk := s1.toks) I1 _ (turn_list a _) ⟨_, Heap.get?_push_size _ rfl, rfl, rfl⟩ q
  · obtain ⟨its, rv, p, hz⟩ := I1.tuple hq
    refine wpAny_pyIter_tuple (show s1.heap.IsTuple a its.toArray from p) ?_
    exact pi_one (tk := s1.toks) I1 _ (turn_tuple a _) ⟨_, Heap.get?_push_size _ rfl, rfl, rfl⟩ q
section
variable {X : Cx} {W : Wd} {z : En} {Wx : WX} {m m' : List Addr} {ow : Ow} {ρ : Env} {A A' : AH} {σ : L2.St} {H H' : Hp} {b : Bool} {e e1 e2 tg : Expr} {f f1 f2 : Env → M D} {pos p : Pos}
theorem repI_ff {mu d v} (h : Rep W mu m H d v) : RepI false W mu m H d v := h
theorem nth_len {α β : Type} {l : List α} {vs : List β} {i : Nat} (h : l.length = vs.length) {d : α} (e : l[i]? = some d) : i < vs.length := by
  rw [← h]
  exact (List.getElem?_eq_some_iff.mp e).1
/-- a list's items -/
theorem sq_list {mu : Addr → Prop} {K : PySem.W.Frag} {a : Addr} {ds : List D} {vs : List V} (h : SqL K H a vs) (r : Reps W mu m H ds vs) (eK : K = W.K) : Sq W false ds (Itl K a) mu m H := by
  refine ⟨fun i d e => ?_, ⟨vs, h, by rw [r.length]; exact Nat.le_refl _⟩⟩
  obtain ⟨v, hv, rv⟩ := r.get e
  exact ⟨⟨vs, v, h, hv⟩, fun x H' ⟨e1, e2⟩ => by
    subst e1
    have := e2 vs h
    rw [hv] at this
    cases this
    exact ⟨.inl rfl, rv⟩⟩
theorem sq_tup {mu : Addr → Prop} {K : PySem.W.Frag} {a : Addr} {ds : List D} {vs : List V} (h : SqT K H a vs) (r : Reps W mu m H ds vs) (eK : K = W.K) : Sq W false ds (Itt K a) mu m H := by
  refine ⟨fun i d e => ?_, ⟨vs, h, by rw [r.length]; exact Nat.le_refl _⟩⟩
  obtain ⟨v, hv, rv⟩ := r.get e
  exact ⟨⟨vs, v, h, hv⟩, fun x H' ⟨e1, e2⟩ => by
    subst e1
    have := e2 vs h
    rw [hv] at this
    cases this
    exact ⟨.inl rfl, rv⟩⟩
/-- a sequence that stands -/
inductive SqS (b : Bool) (W : Wd) (mu : Addr → Prop) (m : List Addr) (H : Hp) (ds : List D) (p : Addr) : Prop where
  | tup (vs : List V) (h : SqD W.K H p vs) (r : Reps W mu m H ds vs)
  | lst (vs : List V) (h : FzL mu H p vs) (r : Reps W mu m H ds vs)
  | flst (vs : List V) (h : FlL W.K mu H p vs) (r : Reps W mu m H ds vs)
  | bor (hb : b = true) (n : p ∉ m) (vs : List V) (h : H p = some (.lst vs)) (r : Reps W mu m H ds vs)
theorem repx_seq {d v l mu} (h : RepX b W mu m H d v) (e : seqOf d = some l) : ∃ p, v = .ref p ∧ SqS b W mu m H l p := by
  have main : Rep W mu m H d v → ∃ p, v = .ref p ∧ SqS b W mu m H l p := fun h => by
    cases d with
    | tup l' => cases e; obtain ⟨p, vs, rfl, h1, h2⟩ := h; exact ⟨p, rfl, .tup vs h1 h2⟩
    | lst l' => cases e; obtain ⟨p, vs, rfl, h1, h2⟩ := h; exact ⟨p, rfl, .lst vs h1 h2⟩
    | flst l' => cases e; obtain ⟨p, vs, rfl, h1, h2⟩ := h; exact ⟨p, rfl, .flst vs h1 h2⟩
    | _ => cases e
  cases b with
  | false => exact main h
  | true =>
    rcases h with h | ⟨l', p, vs, rfl, rfl, n, c, r⟩ | ⟨l', p, es, rfl, _⟩
    · exact main h
    · cases e
      exact ⟨p, rfl, .bor rfl n vs c r⟩
    · cases e
/-- it stands through the loop, a list or a tuple -/
theorem SqS.st {ds : List D} {p : Addr} (S : SRel W z m ow ρ A σ H) (h : SqS b W (muOf z.mu m ow) m H ds p) {mu' : Addr → Prop} {m' : List Addr} {H' : Hp} (l : Le (muOf z.mu m ow) H mu' H') (hp : m <+: m') (k : b = true → Kp m H H') :
    ∃ vs, (SqL W.K H' p vs ∨ SqT W.K H' p vs) ∧ Reps W mu' m' H' ds vs := by
  cases h with
  | tup vs h r => exact ⟨vs, .inr (l.sqD S.ok h).t, r.mono l S.ok hp⟩
  | lst vs h r => exact ⟨vs, .inl (l.fzL h).sq, r.mono l S.ok hp⟩
  | flst vs h r => exact ⟨vs, .inl (l.flL h).sq, r.mono l S.ok hp⟩
  | bor hb n vs h r => exact ⟨vs, .inl (SqL.of (k hb p _ h n)), r.mono l S.ok hp⟩
def SqS.isL {mu} {ds : List D} {p : Addr} (_ : SqS b W mu m H ds p) : Prop := ∃ vs, SqL W.K H p vs
theorem SqS.lst_or {mu} {ds : List D} {p : Addr} (h : SqS b W mu m H ds p) : (∃ vs, SqL W.K H p vs ∧ ∀ mu' m' H', Le mu H mu' H' → m <+: m' → MuOk mu H → (b = true → Kp m H H') → ∃ vs, SqL W.K H' p vs ∧ Reps W mu' m' H' ds vs) ∨
    (∃ vs, SqT W.K H p vs ∧ ∀ mu' m' H', Le mu H mu' H' → m <+: m' → MuOk mu H → (b = true → Kp m H H') → ∃ vs, SqT W.K H' p vs ∧ Reps W mu' m' H' ds vs) := by
  cases h with
  | tup vs h r => exact .inr ⟨vs, h.t, fun mu' m' H' l hp ok k => ⟨vs, (l.sqD ok h).t, r.mono l ok hp⟩⟩
  | lst vs h r => exact .inl ⟨vs, h.sq, fun mu' m' H' l hp ok k => ⟨vs, (l.fzL h).sq, r.mono l ok hp⟩⟩
  | flst vs h r => exact .inl ⟨vs, h.sq, fun mu' m' H' l hp ok k => ⟨vs, (l.flL h).sq, r.mono l ok hp⟩⟩
  | bor hb n vs h r => exact .inl ⟨vs, SqL.of h, fun mu' m' H' l hp ok k => ⟨vs, SqL.of (k hb p _ h n), r.mono l ok hp⟩⟩
/-- for x in e -/
theorem gi_val (c : CtxOk X W) (h : GE X W z Wx b e f) : GI X W z Wx b false tg e (fun ρ => (f ρ).bind fun x => ofO (seqOf x)) := pi_weak (pi_seq h) fun σ H R ⟨m, ow, ρ, A, S, q⟩ => by
  refine tg_then (fa := f) S q fun m1 H1 A1 x v s1 S1 r1 q1 => ?_
  obtain ⟨l, el, q2⟩ := ofO_out q1
  obtain ⟨p, rfl, sq⟩ := repx_seq r1 el
  refine ⟨p, rfl, ?_⟩
  rcases sq.lst_or with ⟨vs, h1, h2⟩ | ⟨vs, h1, h2⟩
  · refine .inl ⟨⟨vs, by rw [c.1]; exact h1⟩, OutG.now S1 q2 fun mu' m' H' le ok hp k => ?_⟩
    obtain ⟨vs', h3, h4⟩ := h2 mu' m' H' le hp S1.ok k
    exact sq_list (by rw [c.1]; exact h3) h4 c.1
  · refine .inr ⟨⟨vs, by rw [c.1]; exact h1⟩, OutG.now S1 q2 fun mu' m' H' le ok hp k => ?_⟩
    obtain ⟨vs', h3, h4⟩ := h2 mu' m' H' le hp S1.ok k
    exact sq_tup (by rw [c.1]; exact h3) h4 c.1
/-- for x in range(..) -/
theorem sq_rng {mu : Addr → Prop} {lo : Int} {n : Nat} : Sq W false (rangeD lo n) (Itr lo n) mu m H := by
  refine ⟨fun i d e => ?_, by unfold rangeD; rw [List.length_map, List.length_range]; exact Nat.le_refl _⟩
  unfold rangeD at e
  rw [List.getElem?_map] at e
  cases q : (List.range n)[i]? with
  | none => rw [q] at e; cases e
  | some k =>
    rw [q] at e
    obtain ⟨h1, h2⟩ := List.getElem?_eq_some_iff.mp q
    rw [List.getElem_range] at h2
    subst h2
    rw [List.length_range] at h1
    cases e
    exact ⟨h1, fun x H' ⟨e1, e2⟩ => ⟨.inl e1, e2⟩⟩
def evRng1 (f : Env → M D) : Env → M (List D) := fun ρ => (f ρ).bind fun x => (ofO (asInt x)).bind fun j => (grd (decide (-(2 ^ 62) ≤ j) && decide (j < 2 ^ 62))).bind fun _ => M.pure (rangeD 0 j.toNat)
def evRng2 (f1 f2 : Env → M D) : Env → M (List D) := fun ρ => (f1 ρ).bind fun x => (f2 ρ).bind fun y => (ofO (asInt x)).bind fun i => (ofO (asInt y)).bind fun j =>
      (grd (decide (-(2 ^ 62) ≤ i) && decide (i < 2 ^ 62) && (decide (-(2 ^ 62) ≤ j) && decide (j < 2 ^ 62)))).bind fun _ => M.pure (rangeD i (j - i).toNat)
theorem asInt_some {x : D} {i : Int} (h : asInt x = some i) : x = .int i := by
  cases x <;> cases h
  rfl
theorem gi_rng1 (hg : Gl X "range") (hm : X.mg "range" = none) (h : GE X W z Wx true e f) (hn : nst e = true) : GI X W z Wx b false tg (.Call (.Name "range" p) [e] [] pos) (evRng1 f) :=
  pi_weak (pi_range1 hg hm (pa_cons h pa_nil (nst_eq hn)) (nst_eq hn)) fun σ H R ⟨m, ow, ρ, A, S, q⟩ => by
    refine te_then (fa := f) S q fun m1 H1 A1 x v s1 S1 r1 q1 => ?_
    obtain ⟨j, ej, q1⟩ := ofOb q1
    cases asInt_some ej
    obtain ⟨c, q1⟩ := grdb q1
    obtain ⟨c1, c2⟩ := Bool.and_eq_true_iff.mp c
    exact ⟨j, congrArg (fun y => [y]) r1.u.int, of_decide_eq_true c1, of_decide_eq_true c2, OutG.now S1 q1 fun _ _ _ _ _ _ _ => sq_rng⟩
theorem gi_rng2 (hg : Gl X "range") (hm : X.mg "range" = none) (h1 : GE X W z Wx true e1 f1) (h2 : GE X W z Wx true e2 f2) (hn1 : nst e1 = true) (hn2 : nst e2 = true) : GI X W z Wx b false tg (.Call (.Name "range" p) [e1, e2] [] pos) (evRng2 f1 f2) :=
  pi_weak (pi_range2 hg hm (pa_cons h1 (pa_cons h2 pa_nil (nst_eq hn2)) (nst_eq hn1)) (by rw [nst_eq hn1, nst_eq hn2]; rfl) (nst_eq hn2)) fun σ H R ⟨m, ow, ρ, A, S, q⟩ => by
    refine te_then (fa := f1) S q fun m1 H1 A1 x v s1 S1 r1 q1 => te_then (fa := f2) S1 q1 fun m2 H2 A2 y u s2 S2 r2 q2 => ?_
    obtain ⟨i, ei, q3⟩ := ofOb q2
    obtain ⟨j, ej, q4⟩ := ofOb q3
    clear q2 q3
    cases asInt_some ei
    cases asInt_some ej
    obtain ⟨c, q5⟩ := grdb q4
    simp only [Bool.and_eq_true, decide_eq_true_eq] at c
    exact ⟨i, j, by rw [r1.u.int, r2.u.int], ⟨c.1.1, c.1.2, c.2.1, c.2.2⟩, OutG.now S2 q5 fun _ _ _ _ _ _ _ => sq_rng⟩
theorem zip_get {xs ys : List D} {i : Nat} {d : D} (h : (zipD xs ys)[i]? = some d) : ∃ x y, xs[i]? = some x ∧ ys[i]? = some y ∧ d = .tup [x, y] := by
  unfold zipD at h
  rw [List.getElem?_map] at h
  cases e : (xs.zip ys)[i]? with
  | none => rw [e] at h; cases h
  | some q =>
    rw [e] at h
    obtain ⟨x, y⟩ := q
    obtain ⟨h1, h2⟩ := List.getElem?_zip_eq_some.mp e
    exact ⟨x, y, h1, h2, (Option.some.inj h).symm⟩
theorem zip_len (xs ys : List D) : (zipD xs ys).length = min xs.length ys.length := by
  unfold zipD
  rw [List.length_map, List.length_zip]
theorem pairI {mu : Addr → Prop} (ok : MuOk mu H) {T : Addr} {x y : V} {dx dy : D} (hT : H T = none) (rx : Rep W mu m H dx x) (ry : Rep W mu m H dy y) : RepI true W mu m (upd H T (.tup [x, y])) (.tup [dx, dy]) (.ref T) :=
  ⟨_, T, [x, y], rfl, rfl, .inl (.inl upd_same), x, _, rfl, rx.mono (le_upd hT) ok ⟨[], by simp⟩, y, _, rfl, ry.mono (le_upd hT) ok ⟨[], by simp⟩, rfl⟩
theorem sq_zipT {mu : Addr → Prop} {K : PySem.W.Frag} {a c : Addr} {xs ys : List D} {vs us : List V} (ok : MuOk mu H) (h1 : SqT K H a vs) (r1 : Reps W mu m H xs vs) (h2 : SqT K H c us) (r2 : Reps W mu m H ys us) : Sq W true (zipD xs ys) (RZ.ItzT K a c) mu m H := by
  refine ⟨fun i d e => ?_, ⟨vs, us, h1, h2, by rw [zip_len, r1.length, r2.length]; omega⟩⟩
  obtain ⟨x, y, e1, e2, rfl⟩ := zip_get e
  obtain ⟨v, hv, rv⟩ := r1.get e1
  obtain ⟨u, hu, ru⟩ := r2.get e2
  refine ⟨⟨vs, us, v, u, h1, h2, hv, hu⟩, fun w H' ⟨T, x', y', q1, q2, q3, q4, q5⟩ => ?_⟩
  have e3 := q4 vs h1
  have e4 := q5 us h2
  rw [hv] at e3
  rw [hu] at e4
  cases e3
  cases e4
  subst q1 q3
  exact ⟨.inr ⟨T, _, q2, rfl⟩, pairI ok q2 rv ru⟩
theorem sq_zipL {mu : Addr → Prop} {K : PySem.W.Frag} {a c : Addr} {xs ys : List D} {vs us : List V} (ok : MuOk mu H) (h1 : SqL K H a vs) (r1 : Reps W mu m H xs vs) (h2 : SqL K H c us) (r2 : Reps W mu m H ys us) : Sq W true (zipD xs ys) (L2.Itz K a c) mu m H := by
  refine ⟨fun i d e => ?_, ⟨vs, us, h1, h2, by rw [zip_len, r1.length, r2.length]; omega⟩⟩
  obtain ⟨x, y, e1, e2, rfl⟩ := zip_get e
  obtain ⟨v, hv, rv⟩ := r1.get e1
  obtain ⟨u, hu, ru⟩ := r2.get e2
  refine ⟨⟨vs, us, v, u, h1, h2, hv, hu⟩, fun w H' ⟨T, x', y', q1, q2, q3, q4, q5⟩ => ?_⟩
  have e3 := q4 vs h1
  have e4 := q5 us h2
  rw [hv] at e3
  rw [hu] at e4
  cases e3
  cases e4
  subst q1 q3
  exact ⟨.inr ⟨T, _, q2, rfl⟩, pairI ok q2 rv ru⟩
/-- a list, a tuple that stands -/
def StL (b : Bool) (W : Wd) (mu : Addr → Prop) (m : List Addr) (H : Hp) (l : List D) (v : V) : Prop := ∃ p vs, v = .ref p ∧ SqL W.K H p vs ∧ ∀ mu' m' H', Le mu H mu' H' → m <+: m' → (b = true → Kp m H H') → ∃ vs, SqL W.K H' p vs ∧ Reps W mu' m' H' l vs
def StT (b : Bool) (W : Wd) (mu : Addr → Prop) (m : List Addr) (H : Hp) (l : List D) (v : V) : Prop := ∃ p vs, v = .ref p ∧ SqT W.K H p vs ∧ ∀ mu' m' H', Le mu H mu' H' → m <+: m' → (b = true → Kp m H H') → ∃ vs, SqT W.K H' p vs ∧ Reps W mu' m' H' l vs
theorem stL_lst {v : V} {l : List D} {mu} (ok : MuOk mu H) (h : RepX b W mu m H (.lst l) v) : StL b W mu m H l v := by
  have main : Rep W mu m H (.lst l) v → StL b W mu m H l v := fun ⟨p, vs, e, h1, r⟩ => ⟨p, vs, e, h1.sq, fun mu' m' H' l hp k => ⟨vs, (l.fzL h1).sq, r.mono l ok hp⟩⟩
  cases b with
  | false => exact main h
  | true =>
    rcases h with h | ⟨l', p, vs, e, rfl, n, c, r⟩ | ⟨l', p, es, e, _⟩
    · exact main h
    · cases e
      exact ⟨p, vs, rfl, SqL.of c, fun mu' m' H' l hp k => ⟨vs, SqL.of (k rfl p _ c n), r.mono l ok hp⟩⟩
    · cases e
theorem stL_flst {v : V} {l : List D} {mu} (ok : MuOk mu H) (h : RepX b W mu m H (.flst l) v) : StL b W mu m H l v := by
  have main : Rep W mu m H (.flst l) v → StL b W mu m H l v := fun ⟨p, vs, e, h1, r⟩ => ⟨p, vs, e, h1.sq, fun mu' m' H' l hp k => ⟨vs, (l.flL h1).sq, r.mono l ok hp⟩⟩
  cases b with
  | false => exact main h
  | true =>
    rcases h with h | ⟨l', p, vs, e, rfl, n, c, r⟩ | ⟨l', p, es, e, _⟩
    · exact main h
    · cases e
    · cases e
theorem stT_tup {v : V} {l : List D} {mu} (ok : MuOk mu H) (h : RepX b W mu m H (.tup l) v) : StT b W mu m H l v := by
  have main : Rep W mu m H (.tup l) v → StT b W mu m H l v := fun ⟨p, vs, e, h1, r⟩ => ⟨p, vs, e, h1.t, fun mu' m' H' l hp k => ⟨vs, (l.sqD ok h1).t, r.mono l ok hp⟩⟩
  cases b with
  | false => exact main h
  | true =>
    rcases h with h | ⟨l', p, vs, e, rfl, n, c, r⟩ | ⟨l', p, es, e, _⟩
    · exact main h
    · cases e
    · cases e
theorem sq_zipM {mu : Addr → Prop} {K : PySem.W.Frag} {k1 k2 : Bool} {a c : Addr} {xs ys : List D} {vs us : List V} (ok : MuOk mu H) (h1 : SqK k1 K H a vs) (r1 : Reps W mu m H xs vs) (h2 : SqK k2 K H c us) (r2 : Reps W mu m H ys us) : Sq W true (zipD xs ys) (ItzM K k1 k2 a c) mu m H := by
  have n1 := r1.length
  have n2 := r2.length
  refine ⟨fun i d e => ?_, ⟨vs, us, h1, h2, by rw [zip_len]; omega, by rw [zip_len]; omega, by rw [zip_len]; omega⟩⟩
  obtain ⟨x, y, e1, e2, rfl⟩ := zip_get e
  obtain ⟨v, hv, rv⟩ := r1.get e1
  obtain ⟨u, hu, ru⟩ := r2.get e2
  refine ⟨⟨vs, us, v, u, h1, h2, hv, hu⟩, fun w H' ⟨T, x', y', q1, q2, q3, q4, q5⟩ => ?_⟩
  have e3 := q4 vs h1
  have e4 := q5 us h2
  rw [hv] at e3
  rw [hu] at e4
  cases e3
  cases e4
  subst q1 q3
  exact ⟨.inr ⟨T, _, q2, rfl⟩, pairI ok q2 rv ru⟩
/-- it stands, of its kind -/
theorem SqS.kind {mu} {ds : List D} {p : Addr} (h : SqS b W mu m H ds p) : ∃ k vs, SqK k W.K H p vs ∧ ∀ mu' m' H', Le mu H mu' H' → m <+: m' → MuOk mu H → (b = true → Kp m H H') → ∃ vs, SqK k W.K H' p vs ∧ Reps W mu' m' H' ds vs := by
  rcases h.lst_or with ⟨vs, h1, h2⟩ | ⟨vs, h1, h2⟩
  · exact ⟨false, vs, h1, h2⟩
  · exact ⟨true, vs, h1, h2⟩
/-- for x, y in zip(..) -/
theorem gi_zip {elts : List Expr} {kk : Nat} {tpos : Pos} (c : CtxOk X W) (hg : Gl X "zip") (hm : X.mg "zip" = none) (h1 : GE X W z Wx b e1 f1) (h2 : GE X W z Wx b e2 f2) (hn1 : nst e1 = true) (hn2 : nst e2 = true) :
    GI X W z Wx b true (.Tuple elts kk tpos) (.Call (.Name "zip" p) [e1, e2] [] pos) (fun ρ => (f1 ρ).bind fun x => (f2 ρ).bind fun y => ofO (zipS x y)) :=
  pi_weak (pi_zipM hg hm (pa_cons h1 (pa_cons h2 pa_nil (nst_eq hn2)) (nst_eq hn1)) (nst_eq hn1) (by rw [nst_eq hn2]; rfl)) fun σ H R ⟨m, ow, ρ, A, S, q⟩ => by
    refine tg_then (fa := f1) S q fun m1 H1 A1 x v s1 S1 r1 q1 => tg_then (fa := f2) S1 q1 fun m2 H2 A2 y u s2 S2 r2 q2 => ?_
    obtain ⟨l, el, q3⟩ := ofO_out q2
    have rx := r1.mono S1 s2
    unfold zipS at el
    split at el
    · rename_i xs ys ex ey
      cases el
      obtain ⟨p1, rfl, sq1⟩ := repx_seq rx ex
      obtain ⟨p2, rfl, sq2⟩ := repx_seq r2 ey
      obtain ⟨k1, vs, g1, j1⟩ := sq1.kind
      obtain ⟨k2, us, g2, j2⟩ := sq2.kind
      refine ⟨k1, k2, p1, p2, vs, us, rfl, by rw [c.1]; exact g1, by rw [c.1]; exact g2, OutG.now S2 q3 fun mu' m' H' le ok hp k => ?_⟩
      obtain ⟨vs', a1, a2⟩ := j1 mu' m' H' le hp S2.ok k
      obtain ⟨us', b1, b2⟩ := j2 mu' m' H' le hp S2.ok k
      exact sq_zipM ok (by rw [c.1]; exact a1) a2 (by rw [c.1]; exact b1) b2
    · cases el
theorem enum_get {xs : List D} {i : Nat} {d : D} (h : (enumD xs)[i]? = some d) : ∃ x, xs[i]? = some x ∧ d = .tup [.int (i : Nat), x] := by
  unfold enumD at h
  rw [List.getElem?_map] at h
  cases e : (xs.zipIdx)[i]? with
  | none => rw [e] at h; cases h
  | some q =>
    rw [e] at h
    obtain ⟨x, y⟩ := q
    rw [List.getElem?_zipIdx] at e
    cases e2 : xs[i]? with
    | none => rw [e2] at e; cases e
    | some w =>
      rw [e2] at e
      have e3 : (w, 0 + i) = (x, y) := Option.some.inj e
      have ew : w = x := congrArg Prod.fst e3
      have ei : 0 + i = y := congrArg Prod.snd e3
      subst ew
      rw [Nat.zero_add] at ei
      subst ei
      exact ⟨w, rfl, (Option.some.inj h).symm⟩
theorem sq_enumL {mu : Addr → Prop} {K : PySem.W.Frag} {a : Addr} {xs : List D} {vs : List V} (ok : MuOk mu H) (h1 : SqL K H a vs) (r1 : Reps W mu m H xs vs) : Sq W true (enumD xs) (L2.Ite K a) mu m H := by
  refine ⟨fun i d e => ?_, ⟨vs, h1, by unfold enumD; rw [List.length_map, List.length_zipIdx, r1.length]; exact Nat.le_refl _⟩⟩
  obtain ⟨x, e1, rfl⟩ := enum_get e
  obtain ⟨v, hv, rv⟩ := r1.get e1
  refine ⟨⟨vs, v, h1, hv⟩, fun w H' ⟨T, x', q1, q2, q3, q4⟩ => ?_⟩
  have e3 := q4 vs h1
  rw [hv] at e3
  cases e3
  subst q1 q3
  exact ⟨.inr ⟨T, _, q2, rfl⟩, pairI (dx := .int (i : Nat)) ok q2 rfl rv⟩
theorem sq_enumT {mu : Addr → Prop} {K : PySem.W.Frag} {a : Addr} {xs : List D} {vs : List V} (ok : MuOk mu H) (h1 : SqT K H a vs) (r1 : Reps W mu m H xs vs) : Sq W true (enumD xs) (IteT K a) mu m H := by
  refine ⟨fun i d e => ?_, ⟨vs, h1, by unfold enumD; rw [List.length_map, List.length_zipIdx, r1.length]; exact Nat.le_refl _⟩⟩
  obtain ⟨x, e1, rfl⟩ := enum_get e
  obtain ⟨v, hv, rv⟩ := r1.get e1
  refine ⟨⟨vs, v, h1, hv⟩, fun w H' ⟨T, x', q1, q2, q3, q4⟩ => ?_⟩
  have e3 := q4 vs h1
  rw [hv] at e3
  cases e3
  subst q1 q3
  exact ⟨.inr ⟨T, _, q2, rfl⟩, pairI (dx := .int (i : Nat)) ok q2 rfl rv⟩
theorem gi_enum {elts : List Expr} {kk : Nat} {tpos : Pos} (c : CtxOk X W) (hg : Gl X "enumerate") (hm : X.mg "enumerate" = none) (h1 : GE X W z Wx b e1 f1) (hn1 : nst e1 = true) :
    GI X W z Wx b true (.Tuple elts kk tpos) (.Call (.Name "enumerate" p) [e1] [] pos) (fun ρ => (f1 ρ).bind fun x => ofO (enumS x)) :=
  pi_weak (pi_enumA hg hm (pa_cons h1 pa_nil (nst_eq hn1)) (nst_eq hn1)) fun σ H R ⟨m, ow, ρ, A, S, q⟩ => by
    refine tg_then (fa := f1) S q fun m1 H1 A1 x v s1 S1 r1 q1 => ?_
    obtain ⟨l, el, q3⟩ := ofO_out q1
    have lists : ∀ {xs : List D}, l = enumD xs → StL b W (muOf z.mu m1 ow) m1 H1 xs v → ∃ a xs', [v] = [.ref a] ∧ ((SqL X.K H1 a xs' ∧ R (L2.Ite X.K a) H1) ∨ (SqT X.K H1 a xs' ∧ R (IteT X.K a) H1)) := by
      intro xs e ⟨p1, vs, e1, h1, k1⟩
      subst e e1
      refine ⟨p1, vs, rfl, .inl ⟨by rw [c.1]; exact h1, OutG.now S1 q3 fun mu' m' H' le ok hp k => ?_⟩⟩
      obtain ⟨vs', a1, a2⟩ := k1 mu' m' H' le hp k
      exact sq_enumL ok (by rw [c.1]; exact a1) a2
    unfold enumS at el
    split at el <;> cases el
    · obtain ⟨p1, vs, e1, h1, k1⟩ := stT_tup S1.ok r1
      subst e1
      refine ⟨p1, vs, rfl, .inr ⟨by rw [c.1]; exact h1, OutG.now S1 q3 fun mu' m' H' le ok hp k => ?_⟩⟩
      obtain ⟨vs', a1, a2⟩ := k1 mu' m' H' le hp k
      exact sq_enumT ok (by rw [c.1]; exact a1) a2
    · exact lists rfl (stL_lst S1.ok r1)
    · exact lists rfl (stL_flst S1.ok r1)
end
end Ev
end
section
set_option maxHeartbeats 2000000
namespace Ev
open PySem PySem.Spec PyProof.Rows L2
/-! ### a dict walked: keys, values, items -/
section
variable (W : Wd) (mu : Addr → Prop) (m : List Addr) (H : Hp)
def PsR : List (D × D) → List (V × V) → Prop
  | [], ps => ps = []
  | (k, d) :: r, ps => ∃ x y t, ps = (x, y) :: t ∧ Rep W mu m H k x ∧ Rep W mu m H d y ∧ PsR r t
end
def EsR : List (V × V) → List DictEntry → Prop
  | [], es => es = []
  | (x, y) :: r, es => ∃ e t, es = e :: t ∧ RelV x e.key ∧ RelV y e.val ∧ EsR r t
theorem EsR.length : ∀ {ps es}, EsR ps es → ps.length = es.length
  | [], _, h => by cases h; rfl
  | (x, y) :: r, _, h => by
    obtain ⟨e, t, rfl, _, _, h⟩ := h
    simp [EsR.length h]
theorem EsR.get : ∀ {ps es} {i : Nat} {x y : V}, EsR ps es → ps[i]? = some (x, y) → ∃ e, es[i]? = some e ∧ RelV x e.key ∧ RelV y e.val
  | [], _, i, x, y, _, e => by cases e
  | (a, b) :: r, _, 0, x, y, h, e => by
    obtain ⟨e1, t, rfl, h1, h2, _⟩ := h
    cases e
    exact ⟨e1, rfl, h1, h2⟩
  | (a, b) :: r, _, i + 1, x, y, h, e => by
    obtain ⟨e1, t, rfl, _, _, h⟩ := h
    exact EsR.get (i := i) h e
section
variable {W : Wd} {mu mu' : Addr → Prop} {m m' : List Addr} {H H' : Hp}
theorem repE_ps : ∀ {kvs : List (D × D)} {es : List DictEntry}, RepE W mu m H kvs es → ∃ ps, EsR ps es ∧ PsR W mu m H kvs ps
  | [], _, h => by cases h; exact ⟨[], rfl, rfl⟩
  | (k, d) :: r, _, h => by
    obtain ⟨e, er, x, y, rfl, h1, h2, _, h4, h5, h6⟩ := h
    obtain ⟨ps, a, b⟩ := repE_ps h6
    exact ⟨(x, y) :: ps, ⟨e, er, rfl, h1, h4, a⟩, ⟨x, y, ps, rfl, h2, h5, b⟩⟩
theorem PsR.length : ∀ {kvs ps}, PsR W mu m H kvs ps → ps.length = kvs.length
  | [], _, h => by cases h; rfl
  | (k, d) :: r, _, h => by
    obtain ⟨x, y, t, rfl, _, _, h⟩ := h
    simp [PsR.length h]
theorem PsR.get : ∀ {kvs : List (D × D)} {ps} {i : Nat} {k d : D}, PsR W mu m H kvs ps → kvs[i]? = some (k, d) → ∃ x y, ps[i]? = some (x, y) ∧ Rep W mu m H k x ∧ Rep W mu m H d y
  | [], _, i, k, d, _, e => by cases e
  | (a, b) :: r, _, 0, k, d, h, e => by
    obtain ⟨x, y, t, rfl, h1, h2, _⟩ := h
    cases e
    exact ⟨x, y, rfl, h1, h2⟩
  | (a, b) :: r, _, i + 1, k, d, h, e => by
    obtain ⟨x, y, t, rfl, _, _, h⟩ := h
    exact PsR.get (i := i) h e
theorem PsR.mono (l : Le mu H mu' H') (ok : MuOk mu H) (hm : m <+: m') : ∀ {kvs ps}, PsR W mu m H kvs ps → PsR W mu' m' H' kvs ps
  | [], _, h => h
  | (k, d) :: r, _, h => by
    obtain ⟨x, y, t, rfl, h1, h2, h3⟩ := h
    exact ⟨x, y, t, rfl, h1.mono l ok hm, h2.mono l ok hm, h3.mono l ok hm⟩
end
def ItdK (p : Addr) (es : Array DictEntry × Nat) (ps : List (V × V)) : It :=
  ⟨fun i H => H p = some (DictO p es) ∧ i < ps.length, fun i H x H' => H' = H ∧ ∃ y, ps[i]? = some (x, y), fun i H => H p = some (DictO p es) ∧ ps.length ≤ i⟩
def ItdV (p : Addr) (es : Array DictEntry × Nat) (ps : List (V × V)) : It :=
  ⟨fun i H => H p = some (DictO p es) ∧ i < ps.length, fun i H y H' => H' = H ∧ ∃ x, ps[i]? = some (x, y), fun i H => H p = some (DictO p es) ∧ ps.length ≤ i⟩
def ItdI (p : Addr) (es : Array DictEntry × Nat) (ps : List (V × V)) : It :=
  ⟨fun i H => H p = some (DictO p es) ∧ i < ps.length, fun i H v H' => ∃ T x y, ps[i]? = some (x, y) ∧ v = .ref T ∧ H T = none ∧ H' = upd H T (.tup [x, y]), fun i H => H p = some (DictO p es) ∧ ps.length ≤ i⟩
section
variable {X : Cx} {pins : List (Addr × Obj)} {σ : L2.St} {H : Hp} {s : Shared} {p : Addr} {es : Array DictEntry × Nat} {ps : List (V × V)}
theorem raw_at (I : Inv X pins σ H s) (h : H p = some (DictO p es)) : (p == sysModules) = false ∧ s.heap.DictRaw p es.1 es.2 := by
  obtain ⟨hd, o, h1, h2, h3⟩ := DictO.at I h
  exact ⟨hd, o, h1, h2, h3⟩
theorem es_at (hr : EsR ps es.1.toList) {i : Nat} {x y : V} (h : ps[i]? = some (x, y)) : ∃ hi : i < es.1.size, RelV x es.1[i].key ∧ RelV y es.1[i].val := by
  obtain ⟨e, he, h1, h2⟩ := hr.get h
  rw [Array.getElem?_toList] at he
  obtain ⟨hi, rfl⟩ := Array.getElem?_eq_some_iff.mp he
  exact ⟨hi, h1, h2⟩
theorem es_len (hr : EsR ps es.1.toList) : ps.length = es.1.size := by
  rw [hr.length, Array.length_toList]
end
section
variable {P : Program} {w : World} {K : PySem.W.Frag} {tg : Expr} {p : Addr} {es : Array DictEntry × Nat} {ps : List (V × V)}
theorem turn_dk (it : Addr) (hr : EsR ps es.1.toList) : Turn P w K tg (ItdK p es ps) [it] it (fun i h => h.IsKeyIter it p i es.1.size es.2) where
  mem := by simp
  obj := fun i h st b hb => by
    have e : b = it := by simpa using hb
    subst e
    obtain ⟨oi, e, c, dd⟩ := st
    exact ⟨oi, e, fun v z => by rw [dd] at z; cases z⟩
  keep := fun i h h' st k => st.at fun oi e => k it (by simp) oi e
  item := by
    intro X hP hw hK hc i pins s σ H E I hf st hg
    subst hP hw hK
    obtain ⟨hd, hi⟩ := hg
    obtain ⟨f0, f1, f2, f3, f4, f5⟩ := hf it (by simp)
    obtain ⟨_, raw⟩ := raw_at I hd
    obtain ⟨⟨x, y⟩, hxy⟩ : ∃ q, ps[i]? = some q := ⟨ps[i], List.getElem?_eq_getElem hi⟩
    obtain ⟨hi', rx, ry⟩ := es_at hr hxy
    refine wpAny_pyNext_keys_item_raw st raw hi' fun h' st' sb => ?_
    have I1 : Inv X pins σ H { s with heap := h' } := I.turned (t' := s.toks) (fun b ob hb e => (sb.2 b hb).trans e) f0 f1 f3 f4 f5
    obtain ⟨oi, e, c, dd⟩ := id st'
    exact ⟨_, rfl, go_of (s := { s with heap := h' }) e c dd (by decide) ⟨x, H, I1, rx, ⟨rfl, y, hxy⟩, st', fun b hb => (hf b hb).1⟩⟩
  done := by
    intro X hP hw hK hc i pins s σ H E I hf st hg
    subst hP hw hK
    obtain ⟨hd, hi⟩ := hg
    obtain ⟨f0, f1, f2, f3, f4, f5⟩ := hf it (by simp)
    obtain ⟨_, raw⟩ := raw_at I hd
    exact wpAny_pyNext_keys_end_raw (I.ok.hd hc) st raw (by rw [← es_len hr]; exact hi) fun h' eb => ⟨rfl, I.turned (t' := s.toks) (fun b ob hb e => eb b ob hb e) f0 f1 f3 f4 f5⟩
  self := fun A i s Q E st h => by
    refine wpAny_pyIter_slot st.typeIs F.slot_dict_keyiterator_iter (wpAny_call_entry F.slot_dict_keyiterator_iter st.typeIs F.entry_dict_keyiterator_iter ?_ (F.args_dict_keyiterator_iter_1 _))
    show wpAny _ _ (ret (.ref it)) _ _ s
    exact wpAny_pure ⟨_, rfl, "dict_keyiterator", _, st.typeIs, F.slot_dict_keyiterator_next.lookup, h⟩
theorem turn_dv (it : Addr) (hr : EsR ps es.1.toList) : Turn P w K tg (ItdV p es ps) [it] it (fun i h => h.IsValIter it p i es.1.size es.2) where
  mem := by simp
  obj := fun i h st b hb => by
    have e : b = it := by simpa using hb
    subst e
    obtain ⟨oi, e, c, dd⟩ := st
    exact ⟨oi, e, fun v z => by rw [dd] at z; cases z⟩
  keep := fun i h h' st k => st.at fun oi e => k it (by simp) oi e
  item := by
    intro X hP hw hK hc i pins s σ H E I hf st hg
    subst hP hw hK
    obtain ⟨hd, hi⟩ := hg
    obtain ⟨f0, f1, f2, f3, f4, f5⟩ := hf it (by simp)
    obtain ⟨_, raw⟩ := raw_at I hd
    obtain ⟨⟨x, y⟩, hxy⟩ : ∃ q, ps[i]? = some q := ⟨ps[i], List.getElem?_eq_getElem hi⟩
    obtain ⟨hi', rx, ry⟩ := es_at hr hxy
    refine wpAny_pyNext_values_item_raw st raw hi' fun h' st' sb => ?_
    have I1 : Inv X pins σ H { s with heap := h' } := I.turned (t' := s.toks) (fun b ob hb e => (sb.2 b hb).trans e) f0 f1 f3 f4 f5
    obtain ⟨oi, e, c, dd⟩ := id st'
    exact ⟨_, rfl, go_of (s := { s with heap := h' }) e c dd (by decide) ⟨y, H, I1, ry, ⟨rfl, x, hxy⟩, st', fun b hb => (hf b hb).1⟩⟩
  done := by
    intro X hP hw hK hc i pins s σ H E I hf st hg
    subst hP hw hK
    obtain ⟨hd, hi⟩ := hg
    obtain ⟨f0, f1, f2, f3, f4, f5⟩ := hf it (by simp)
    obtain ⟨_, raw⟩ := raw_at I hd
    exact wpAny_pyNext_values_end_raw (I.ok.hd hc) st raw (by rw [← es_len hr]; exact hi) fun h' eb => ⟨rfl, I.turned (t' := s.toks) (fun b ob hb e => eb b ob hb e) f0 f1 f3 f4 f5⟩
  self := fun A i s Q E st h => wpAny_pyIter_valiter st h
theorem turn_di {elts : List Expr} {kk : Nat} {tpos : Pos} (it : Addr) (hr : EsR ps es.1.toList) : Turn P w K (.Tuple elts kk tpos) (ItdI p es ps) [it] it (fun i h => ∃ ok ov, IsItemIter h it p i es.1.size es.2 ok ov) where
  mem := by simp
  obj := fun i h st b hb => by
    have e : b = it := by simpa using hb
    subst e
    obtain ⟨ok, ov, e⟩ := st
    exact ⟨_, e, fun v z => nomatch z⟩
  keep := fun i h h' st k => let ⟨ok, ov, e⟩ := st; ⟨ok, ov, k it (by simp) _ e⟩
  item := by
    intro X hP hw hK hc i pins s σ H E I hf st hg
    subst hP hw hK
    obtain ⟨hd, hi⟩ := hg
    obtain ⟨_, raw⟩ := raw_at I hd
    obtain ⟨⟨x, y⟩, hxy⟩ : ∃ q, ps[i]? = some q := ⟨ps[i], List.getElem?_eq_getElem hi⟩
    obtain ⟨hi', rx, ry⟩ := es_at hr hxy
    obtain ⟨ok, ov, he⟩ := st
    have hlt : it < s.heap.objs.size := Heap.lt_size he
    refine wpAny_pyNext_items_item_raw he raw hi' fun h' ho hT hz hk => ?_
    refine ⟨_, rfl, wpAny_letOwnedTupleGo_items (s := { s with heap := h' }) ho fun h'' he' sb => ?_⟩
    have hT2 : h''.get? s.heap.objs.size = some { cls := .type "tuple", data := .seq #[es.1[i].key, es.1[i].val] } := (sb.2 _ (Nat.ne_of_gt hlt)).trans hT
    have new : ObjOk X.prog X.w (upd H s.heap.objs.size (.tup [x, y])) h'' s.heap.objs.size (.tup [x, y]) :=
      ⟨by show 2 ≤ sizeLine; decide, [es.1[i].key, es.1[i].val], .cons rx (.cons ry .nil), ⟨_, hT2, rfl, _, rfl⟩⟩
    have I1 : Inv X pins σ (upd H s.heap.objs.size (.tup [x, y])) { s with heap := h'' } :=
      I.turnedNew (t' := s.toks) (ch := [it]) (fun b ob hb e => (sb.2 b (by simpa using hb)).trans (hk b ob (by simpa using hb) e)) hf (Nat.le_refl _) new
    refine ⟨.ref s.heap.objs.size, _, I1, rfl, ⟨_, x, y, hxy, rfl, I.hok.fresh (Nat.le_refl _), rfl⟩, ⟨_, _, he'⟩, fun b hb => ?_⟩
    have e : b = it := by simpa using hb
    rw [e, upd_ne (Nat.ne_of_lt hlt)]
    exact (hf it (by simp)).1
  done := by
    intro X hP hw hK hc i pins s σ H E I hf st hg
    subst hP hw hK
    obtain ⟨hd, hi⟩ := hg
    obtain ⟨f0, f1, f2, f3, f4, f5⟩ := hf it (by simp)
    obtain ⟨_, raw⟩ := raw_at I hd
    obtain ⟨ok, ov, he⟩ := st
    exact wpAny_pyNext_items_end_raw (I.ok.hd hc) he raw (by rw [← es_len hr]; exact hi) fun h' eb => ⟨rfl, I.turned (t' := s.toks) (fun b ob hb e => eb b ob hb e) f0 f1 f3 f4 f5⟩
  self := fun A i s Q E st h => let ⟨_, _, e⟩ := st; PySem.W.kcp_self e h
end
section
variable {X : Cx} {tg e : Expr} {td : TE} {apos cpos : Pos}
def iDv (td : TE) : TI := fun σ H R => td σ H fun x H1 => ∃ p es ps, x = .ref p ∧ H1 p = some (DictO p es) ∧ EsR ps es.1.toList ∧ R (ItdV p es ps) H1
def iDi (td : TE) : TI := fun σ H R => td σ H fun x H1 => ∃ p es ps, x = .ref p ∧ H1 p = some (DictO p es) ∧ EsR ps es.1.toList ∧ R (ItdI p es ps) H1
theorem pi_dv (he : PE X e td) (hbase : attributeBase e "values" X.env (eval e X.env) = eval e X.env) (hline : (apos.endLine == cpos.line) = true) : PI X tg (.Call (.Attribute e "values" apos) [] [] cpos) (iDv td) := by
  refine ⟨fun pins s σ H R I h => ?_⟩
  refine wpAny_Call_method (T := "dict") (id := "dict.values") hbase rfl hline F.plainAttrs_dict F.slot_dict_values F.type_dict_values (thn (he.run pins s σ H _ I h) fun u s1 ⟨x, H1, I1, rx, p, es, ps, ex, hd, hr, q⟩ => ?_)
  subst ex
  obtain rfl : u = Value.ref p := rx
  obtain ⟨hs, raw⟩ := raw_at I1 hd
  obtain ⟨o, ho, hc, hdt⟩ := id raw
  refine ⟨raw.typeIs, fun a ea => by cases ea; exact ⟨o, ho, hc.2.1⟩, ?_⟩
  have I2 : Inv X pins σ H1 { s1 with heap := s1.heap.push { cls := .type "dict_values", data := .fields #[.ref p] } } := I1.kept (t' := s1.toks) fun b ob q => Heap.get?_push_of_some _ q
  have fin : wpAny (model X.prog X.w) X.A (pyIter (.ref s1.heap.objs.size)) (PIE X pins σ tg R) X.xe { s1 with heap := s1.heap.push { cls := .type "dict_values", data := .fields #[.ref p] } } :=
    wpAny_pyIter_values_raw (d := p) ⟨_, Heap.get?_push_size _ rfl, rfl, rfl⟩ (raw.at fun o e => Heap.get?_push_of_some _ e) (pi_one (tk := s1.toks) I2 _ (turn_dv _ hr) ⟨_, Heap.get?_push_size _ rfl, rfl, rfl⟩ q)
  show wpAny _ _ (callWith cpos (.builtin "dict.values") [.ref p] [] []) _ X.xe s1
  exact method_meetsIn F.slot_dict_values F.entry_dict_values rfl (PySem.evalArgs_none ⟨rfl, raw.typeIs, F.args_dict_values_1 _, _, meets_dict_values_raw p hs, ⟨_, _, raw⟩, fin⟩)
theorem pi_di {elts : List Expr} {kk : Nat} {tpos : Pos} (he : PE X e td) (hbase : attributeBase e "items" X.env (eval e X.env) = eval e X.env) (hline : (apos.endLine == cpos.line) = true) : PI X (.Tuple elts kk tpos) (.Call (.Attribute e "items" apos) [] [] cpos) (iDi td) := by
  refine ⟨fun pins s σ H R I h => ?_⟩
  refine wpAny_Call_method (T := "dict") (id := "dict.items") hbase rfl hline F.plainAttrs_dict F.slot_dict_items F.type_dict_items (thn (he.run pins s σ H _ I h) fun u s1 ⟨x, H1, I1, rx, p, es, ps, ex, hd, hr, q⟩ => ?_)
  subst ex
  obtain rfl : u = Value.ref p := rx
  obtain ⟨hs, raw⟩ := raw_at I1 hd
  obtain ⟨o, ho, hc, hdt⟩ := id raw
  refine ⟨raw.typeIs, fun a ea => by cases ea; exact ⟨o, ho, hc.2.1⟩, ?_⟩
  have I2 : Inv X pins σ H1 { s1 with heap := s1.heap.push { cls := .type "dict_items", data := .fields #[.ref p] } } := I1.kept (t' := s1.toks) fun b ob q => Heap.get?_push_of_some _ q
  have fin : wpAny (model X.prog X.w) X.A (pyIter (.ref s1.heap.objs.size)) (PIE X pins σ (.Tuple elts kk tpos) R) X.xe { s1 with heap := s1.heap.push { cls := .type "dict_items", data := .fields #[.ref p] } } :=
    wpAny_pyIter_items_raw (d := p) ⟨_, Heap.get?_push_size _ rfl, rfl, rfl⟩ (raw.at fun o e => Heap.get?_push_of_some _ e) (pi_one (tk := s1.toks) I2 _ (turn_di _ hr) ⟨.none, .none, Heap.get?_push_size _ rfl⟩ q)
  show wpAny _ _ (callWith cpos (.builtin "dict.items") [.ref p] [] []) _ X.xe s1
  exact method_meetsIn F.slot_dict_items F.entry_dict_items rfl (PySem.evalArgs_none ⟨rfl, raw.typeIs, F.args_dict_items_1 _, _, meets_dict_items_raw p hs, ⟨_, _, raw⟩, fin⟩)
end
def itOf : D → Option (List D)
  | .tup l => some l
  | .lst l => some l
  | .flst l => some l
  | .dct kvs => some (kvs.map (·.1))
  | _ => none
theorem itOf_or {d : D} {l : List D} (h : itOf d = some l) : (∃ kvs, d = .dct kvs ∧ l = kvs.map (·.1)) ∨ seqOf d = some l := by
  cases d <;> first | (cases h; exact .inr rfl) | (cases h; exact .inl ⟨_, rfl, rfl⟩) | cases h
def valsOf : D → Option (List D)
  | .dct kvs => some (kvs.map (·.2))
  | _ => none
def itmsOf : D → Option (List D)
  | .dct kvs => some (kvs.map fun p => .tup [p.1, p.2])
  | _ => none
section
variable {X : Cx} {W : Wd} {z : En} {Wx : WX} {m m' : List Addr} {ow : Ow} {ρ : Env} {A A' : AH} {σ : L2.St} {H H' : Hp} {b : Bool} {e tg : Expr} {f : Env → M D} {apos cpos : Pos}
/-- a dict that stands through the loop -/
theorem repx_dct {mu : Addr → Prop} {l : List (D × D)} {v : V} (h : RepX b W mu m H (.dct l) v) : ∃ p es, v = .ref p ∧ H p = some (DictO p es) ∧ RepE W mu m H l es.1.toList ∧ ∀ (mu' : Addr → Prop) (H' : Hp), Le mu H mu' H' → (b = true → Kp m H H') → H' p = some (DictO p es) := by
  have main : Rep W mu m H (.dct l) v → ∃ p es, v = .ref p ∧ H p = some (DictO p es) ∧ RepE W mu m H l es.1.toList ∧ ∀ (mu' : Addr → Prop) (H' : Hp), Le mu H mu' H' → (b = true → Kp m H H') → H' p = some (DictO p es) := fun h => by
    obtain ⟨p, es, e, h1, h2, h3, h4⟩ := h
    exact ⟨p, es, e, h1, h4, fun mu' H' l k => l.keep p _ h1 h2⟩
  cases b with
  | false => exact main h
  | true =>
    rcases h with h | ⟨l', p, vs, e, _⟩ | ⟨l', p, es, e, e2, n, h1, h2, h3⟩
    · exact main h
    · cases e
    · cases e
      exact ⟨p, es, e2, h1, h3, fun mu' H' l k => k rfl p _ h1 n⟩
theorem sq_dv {mu : Addr → Prop} {p : Addr} {es : Array DictEntry × Nat} {ps : List (V × V)} {kvs : List (D × D)} (h : H p = some (DictO p es)) (r : PsR W mu m H kvs ps) : Sq W false (kvs.map (·.2)) (ItdV p es ps) mu m H := by
  refine ⟨fun i d e => ?_, ⟨h, by rw [r.length, List.length_map]; exact Nat.le_refl _⟩⟩
  rw [List.getElem?_map] at e
  cases q : kvs[i]? with
  | none => rw [q] at e; cases e
  | some kd =>
    rw [q] at e
    cases e
    obtain ⟨k, d⟩ := kd
    obtain ⟨x, y, hxy, rk, rd⟩ := r.get q
    refine ⟨⟨h, (List.getElem?_eq_some_iff.mp hxy).1⟩, fun v H' ⟨e1, x', e2⟩ => ?_⟩
    rw [hxy] at e2
    cases e2
    subst e1
    exact ⟨.inl rfl, rd⟩
theorem sq_di {mu : Addr → Prop} (ok : MuOk mu H) {p : Addr} {es : Array DictEntry × Nat} {ps : List (V × V)} {kvs : List (D × D)} (h : H p = some (DictO p es)) (r : PsR W mu m H kvs ps) : Sq W true (kvs.map fun p => .tup [p.1, p.2]) (ItdI p es ps) mu m H := by
  refine ⟨fun i d e => ?_, ⟨h, by rw [r.length, List.length_map]; exact Nat.le_refl _⟩⟩
  rw [List.getElem?_map] at e
  cases q : kvs[i]? with
  | none => rw [q] at e; cases e
  | some kd =>
    rw [q] at e
    cases e
    obtain ⟨k, d⟩ := kd
    obtain ⟨x, y, hxy, rk, rd⟩ := r.get q
    refine ⟨⟨h, (List.getElem?_eq_some_iff.mp hxy).1⟩, fun v H' ⟨T, x', y', e2, e3, e4, e5⟩ => ?_⟩
    rw [hxy] at e2
    cases e2
    subst e3 e5
    exact ⟨.inr ⟨T, _, e4, rfl⟩, pairI ok e4 rk rd⟩
theorem sq_dk {mu : Addr → Prop} {p : Addr} {es : Array DictEntry × Nat} {ps : List (V × V)} {kvs : List (D × D)} (h : H p = some (DictO p es)) (r : PsR W mu m H kvs ps) : Sq W false (kvs.map (·.1)) (ItdK p es ps) mu m H := by
  refine ⟨fun i d e => ?_, ⟨h, by rw [r.length, List.length_map]; exact Nat.le_refl _⟩⟩
  rw [List.getElem?_map] at e
  cases q : kvs[i]? with
  | none => rw [q] at e; cases e
  | some kd =>
    rw [q] at e
    cases e
    obtain ⟨k, d⟩ := kd
    obtain ⟨x, y, hxy, rk, rd⟩ := r.get q
    refine ⟨⟨h, (List.getElem?_eq_some_iff.mp hxy).1⟩, fun v H' ⟨e1, y', e2⟩ => ?_⟩
    rw [hxy] at e2
    cases e2
    subst e1
    exact ⟨.inl rfl, rk⟩
def iSeqD (K : PySem.W.Frag) (tl : TE) : TI := fun σ H R => tl σ H fun x H1 => ∃ a, x = .ref a ∧ (((∃ xs, SqL K H1 a xs) ∧ R (Itl K a) H1) ∨ ((∃ xs, SqT K H1 a xs) ∧ R (Itt K a) H1) ∨ ∃ es ps, H1 a = some (DictO a es) ∧ EsR ps es.1.toList ∧ R (ItdK a es ps) H1)
theorem pi_seqD {tl : TE} (hl : PE X e tl) : PI X tg e (iSeqD X.K tl) := by
  refine ⟨fun pins s σ H R I h => ?_⟩
  refine thn (hl.run pins s σ H _ I h) fun v s1 ⟨x, H1, I1, r1, a, e, q1⟩ => ?_
  subst e
  cases r1
  rcases q1 with ⟨⟨xs, hq⟩, q⟩ | ⟨⟨xs, hq⟩, q⟩ | ⟨es, ps, hd, hr, q⟩
  · obtain ⟨its, rv, p, hz⟩ := I1.list hq
    refine wpAny_pyIter_list p.isList ?_
    exact pi_one (tk := s1.toks) I1 _ (turn_list a _) ⟨_, Heap.get?_push_size _ rfl, rfl, rfl⟩ q
  · obtain ⟨its, rv, p, hz⟩ := I1.tuple hq
    refine wpAny_pyIter_tuple (show s1.heap.IsTuple a its.toArray from p) ?_
    exact pi_one (tk := s1.toks) I1 _ (turn_tuple a _) ⟨_, Heap.get?_push_size _ rfl, rfl, rfl⟩ q
  · obtain ⟨hs, raw⟩ := raw_at I1 hd
    exact wpAny_pyIter_dict_raw hs raw (pi_one (tk := s1.toks) I1 _ (turn_dk _ hr) ⟨_, Heap.get?_push_size _ rfl, rfl, rfl⟩ q)
/-- for x in e, a list, a tuple or a dict -/
theorem gi_valD (c : CtxOk X W) (h : GE X W z Wx b e f) : GI X W z Wx b false tg e (fun ρ => (f ρ).bind fun x => ofO (itOf x)) := pi_weak (pi_seqD h) fun σ H R ⟨m, ow, ρ, A, S, q⟩ => by
  refine tg_then (fa := f) S q fun m1 H1 A1 x v s1 S1 r1 q1 => ?_
  obtain ⟨l, el, q2⟩ := ofO_out q1
  rcases itOf_or el with ⟨kvs, rfl, rfl⟩ | el
  · obtain ⟨p, es, e1, h1, h2, h3⟩ := repx_dct r1
    obtain ⟨ps, er, pr⟩ := repE_ps h2
    exact ⟨p, e1, .inr (.inr ⟨es, ps, h1, er, OutG.now S1 q2 fun mu' m' H' le ok hp k => sq_dk (h3 mu' H' le k) (pr.mono le S1.ok hp)⟩)⟩
  · obtain ⟨p, rfl, sq⟩ := repx_seq r1 el
    refine ⟨p, rfl, ?_⟩
    rcases sq.lst_or with ⟨vs, h1, h2⟩ | ⟨vs, h1, h2⟩
    · refine .inl ⟨⟨vs, by rw [c.1]; exact h1⟩, OutG.now S1 q2 fun mu' m' H' le ok hp k => ?_⟩
      obtain ⟨vs', h3, h4⟩ := h2 mu' m' H' le hp S1.ok k
      exact sq_list (by rw [c.1]; exact h3) h4 c.1
    · refine .inr (.inl ⟨⟨vs, by rw [c.1]; exact h1⟩, OutG.now S1 q2 fun mu' m' H' le ok hp k => ?_⟩)
      obtain ⟨vs', h3, h4⟩ := h2 mu' m' H' le hp S1.ok k
      exact sq_tup (by rw [c.1]; exact h3) h4 c.1
theorem gi_dv (h : GE X W z Wx b e f) (hbase : attributeBase e "values" X.env (eval e X.env) = eval e X.env) (hline : (apos.endLine == cpos.line) = true) : GI X W z Wx b false tg (.Call (.Attribute e "values" apos) [] [] cpos) (fun ρ => (f ρ).bind fun x => ofO (valsOf x)) :=
  pi_weak (pi_dv h hbase hline) fun σ H R ⟨m, ow, ρ, A, S, q⟩ => by
    refine tg_then (fa := f) S q fun m1 H1 A1 x v s1 S1 r1 q1 => ?_
    obtain ⟨l, el, q2⟩ := ofO_out q1
    cases x with
    | dct kvs =>
      cases el
      obtain ⟨p, es, e1, h1, h2, h3⟩ := repx_dct r1
      obtain ⟨ps, er, pr⟩ := repE_ps h2
      exact ⟨p, es, ps, e1, h1, er, OutG.now S1 q2 fun mu' m' H' le ok hp k => sq_dv (h3 mu' H' le k) (pr.mono le S1.ok hp)⟩
    | _ => cases el
theorem gi_di {elts : List Expr} {kk : Nat} {tpos : Pos} (h : GE X W z Wx b e f) (hbase : attributeBase e "items" X.env (eval e X.env) = eval e X.env) (hline : (apos.endLine == cpos.line) = true) : GI X W z Wx b true (.Tuple elts kk tpos) (.Call (.Attribute e "items" apos) [] [] cpos) (fun ρ => (f ρ).bind fun x => ofO (itmsOf x)) :=
  pi_weak (pi_di h hbase hline) fun σ H R ⟨m, ow, ρ, A, S, q⟩ => by
    refine tg_then (fa := f) S q fun m1 H1 A1 x v s1 S1 r1 q1 => ?_
    obtain ⟨l, el, q2⟩ := ofO_out q1
    cases x with
    | dct kvs =>
      cases el
      obtain ⟨p, es, e1, h1, h2, h3⟩ := repx_dct r1
      obtain ⟨ps, er, pr⟩ := repE_ps h2
      exact ⟨p, es, ps, e1, h1, er, OutG.now S1 q2 fun mu' m' H' le ok hp k => sq_di ok (h3 mu' H' le k) (pr.mono le S1.ok hp)⟩
    | _ => cases el
end
end Ev
end
section
set_option maxHeartbeats 2000000
namespace Ev
open PySem PySem.Spec PyProof.Rows L2
/-! ### the state relation, further -/
section
variable {X : Cx} {W : Wd} {z : En} {Wx : WX} {m m' : List Addr} {ow : Ow} {ρ ρ' : Env} {A A' : AH} {σ : L2.St} {H H' : Hp} {b : Bool}
theorem SRel.setv (S : SRel W z m ow ρ A σ H) {i : Nat} {d : D} {v : V} (h : setV ρ i d = some ρ') (r : Rep W (muOf z.mu m ow) m H d v) : SRel W z m ow ρ' A (σ.set i (some v)) H := by
  have hi : i < ρ.length ∧ ow i = none ∧ ρ' = ρ.set i (.val d) := by
    unfold setV at h
    cases e : ρ[i]? with
    | none => rw [e] at h; cases h
    | some sl =>
      have hl := (List.getElem?_eq_some_iff.mp e).1
      rw [e] at h
      have k := S.slot i sl e
      cases sl with
      | no => exact ⟨hl, k, (Option.some.inj h).symm⟩
      | clo => exact ⟨hl, k.1, (Option.some.inj h).symm⟩
      | val d' => exact ⟨hl, k.1, (Option.some.inj h).symm⟩
      | own l => cases h
      | ownD l => cases h
  obtain ⟨hl, ho, rfl⟩ := hi
  refine ⟨by simp [S.len], S.own0, S.ownm, S.omu, S.inj, fun j hj => S.out j (by simpa using hj), S.sm, S.ok, fun j sl e => ?_, S.hp, S.cl⟩
  by_cases q : i = j
  · subst q
    rw [List.getElem?_set_self hl] at e
    cases e
    exact ⟨ho, v, by rw [List.getElem?_set_self (by rw [S.len]; exact hl)], r⟩
  · rw [List.getElem?_set_ne q] at e
    rw [List.getElem?_set_ne q]
    exact S.slot j sl e
theorem SRel.set0 (S : SRel W z m ow ρ A σ H) {i : Nat} (h : ow i = none) : SRel W z m ow (ρ.set i .no) A (σ.set i none) H := by
  refine ⟨by simp [S.len], S.own0, S.ownm, S.omu, S.inj, fun j hj => S.out j (by simpa using hj), S.sm, S.ok, fun j sl e => ?_, S.hp, S.cl⟩
  by_cases q : i = j
  · subst q
    have hl : i < ρ.length := by
      have := (List.getElem?_eq_some_iff.mp e).1
      simpa using this
    rw [List.getElem?_set_self hl] at e
    cases e
    exact h
  · rw [List.getElem?_set_ne q] at e
    rw [List.getElem?_set_ne q]
    exact S.slot j sl e
theorem SRel.wipe : ∀ {vs : List Nat} {ρ ρ' : Env}, SRel W z m ow ρ A σ H → slot0 ρ vs = some ρ' → SRel W z m ow ρ' A (wipe σ vs) H
  | [], ρ, ρ', S, h => by cases h; exact S
  | i :: vs, ρ, ρ', S, h => by
    unfold slot0 at h
    cases e : slot0 ρ vs with
    | none => rw [e] at h; cases h
    | some ρ1 =>
      have S1 := SRel.wipe S e
      rw [e] at h
      have go : ow i = none ∧ ρ' = ρ1.set i .no := by
        cases e2 : ρ1[i]? with
        | none => simp only [e2] at h; cases h
        | some sl =>
          have k := S1.slot i sl e2
          cases sl with
          | no => simp only [e2] at h; exact ⟨k, (Option.some.inj h).symm⟩
          | clo => simp only [e2] at h; exact ⟨k.1, (Option.some.inj h).symm⟩
          | val d => simp only [e2] at h; exact ⟨k.1, (Option.some.inj h).symm⟩
          | own l => simp only [e2] at h; cases h
          | ownD l => simp only [e2] at h; cases h
      obtain ⟨h1, rfl⟩ := go
      exact S1.set0 h1
/-- a wider set of what changes -/
def En.add (z : En) (D : Addr) : En := { z with mu := fun p => z.mu p ∨ p = D }
theorem ClR.add {W : Wd} {z : En} {D : Addr} (h : ClR W z) (hD : z.H D = none) : ClR W (z.add D) := fun f z0 e => by
  obtain ⟨a, b, c⟩ := h f z0 e
  refine ⟨a, b, fun p q => ?_⟩
  rcases q with q | rfl
  · exact c p q
  · exact .inr (by rw [b]; exact hD)
theorem ClR.back {W : Wd} {z : En} {D : Addr} (h : ClR W (z.add D)) : ClR W z := fun f z0 e =>
  let ⟨a, b, c⟩ := h f z0 e
  ⟨a, b, fun p q => c p (.inl q)⟩
theorem SRel.move {z z' : En} (S : SRel W z m ow ρ A σ H) (e1 : z'.H = z.H) (e2 : z'.m = z.m) (l : Le (muOf z.mu m ow) H (muOf z'.mu m ow) H') (sm : Sm z.m z.H m H') (ok : MuOk (muOf z'.mu m ow) H') (ko : ∀ i p, ow i = some p → H' p = H p) (kz : ∀ i p, ow i = some p → ¬ z'.mu p) (km : ∀ p ∈ m, H' p = H p) (kc : ClR W z') : SRel W z' m ow ρ A σ H' where
  len := S.len
  own0 := by rw [e1]; exact S.own0
  ownm := S.ownm
  omu := kz
  inj := S.inj
  out := S.out
  sm := by rw [e1, e2]; exact sm
  ok := ok
  slot := fun i sl e => by
    have q := S.slot i sl e
    cases sl with
    | no => exact q
    | clo => exact q
    | val d => obtain ⟨q1, v, q2, q3⟩ := q; exact ⟨q1, v, q2, q3.mono l S.ok ⟨[], by simp⟩⟩
    | own l' => obtain ⟨p, vs, q1, q2, q3, q4⟩ := q; exact ⟨p, vs, q1, q2, by rw [ko i p q1]; exact q3, q4.mono l S.ok ⟨[], by simp⟩⟩
    | ownD l' => obtain ⟨p, es, q1, q2, q3, k, q4⟩ := q; exact ⟨p, es, q1, q2, by rw [ko i p q1]; exact q3, k, q4.mono l S.ok ⟨[], by simp⟩⟩
  hp := S.hp.mono l S.ok km
  cl := kc
theorem SRel.memH (S : SRel W z m ow ρ A σ H) {p : Addr} (h : p ∈ m) : ∃ o, H p = some o := by
  obtain ⟨i, o, h1, h2, h3⟩ := S.hp.at h
  obtain ⟨u, h4, _⟩ := h3.good
  exact ⟨u, h4⟩
theorem SRel.ownH (S : SRel W z m ow ρ A σ H) {i : Nat} {p : Addr} (h : ow i = some p) : ∃ o, H p = some o := by
  obtain ⟨o, h1, _⟩ := S.ok p (.inr (.inr ⟨i, h⟩))
  exact ⟨o, h1⟩
theorem SRel.zH (S : SRel W z m ow ρ A σ H) {D : Addr} (hD : H D = none) : z.H D = none := by
  cases e : z.H D with
  | none => rfl
  | some o =>
    obtain ⟨o', h⟩ := S.sm.live D o e
    rw [hD] at h
    cases h
/-- a list being made -/
theorem SRel.addD (S : SRel W z m ow ρ A σ H) {D : Addr} {o : HO} (hD : H D = none) (n1 : ∀ xs, o ≠ .tup xs) (n2 : ∀ ob u, o ≠ .frz ob u) : SRel W (z.add D) m ow ρ A σ (upd H D o) := by
  have nd : ∀ a u, H a = some u → a ≠ D := fun a u e => ne_of_none e hD
  refine S.move rfl rfl ⟨fun a u e _ => by rw [upd_ne (nd a u e)]; exact e, fun a u e n q => ?_⟩ (S.sm.trans (Sm.laid hD)) (fun p q => ?_) (fun i p q => ?_) (fun i p q y => ?_) (fun p q => ?_) (S.cl.add (S.zH hD))
  · rcases q with (q | q) | q
    · exact n (.inl q)
    · exact nd a u e q
    · exact n (.inr q)
  · by_cases hp : p = D
    · subst hp
      exact ⟨o, upd_same, n1, n2⟩
    · have q' : muOf z.mu m ow p := by
        rcases q with (q | q) | q
        · exact .inl q
        · exact absurd q hp
        · exact .inr q
      obtain ⟨u, e, k⟩ := S.ok p q'
      exact ⟨u, by rw [upd_ne hp]; exact e, k⟩
  · obtain ⟨u, e⟩ := S.ownH q
    exact upd_ne (nd p u e)
  · obtain ⟨u, e⟩ := S.ownH q
    rcases y with y | y
    · exact S.omu i p q y
    · exact nd p u e y
  · obtain ⟨u, e⟩ := S.memH q
    exact upd_ne (nd p u e)
/-- .. and grows -/
theorem SRel.updD (S : SRel W z m ow ρ A σ H) {D : Addr} {o o' : HO} (hz : z.mu D) (hD : H D = some o) (hz0 : z.H D = none) (hm : D ∉ m) (ho : ∀ i, ow i ≠ some D) (n1 : ∀ xs, o' ≠ .tup xs) (n2 : ∀ ob u, o' ≠ .frz ob u) : SRel W z m ow ρ A σ (upd H D o') := by
  refine S.move rfl rfl ⟨fun a u e n => by rw [upd_ne fun (q : a = D) => n (.inl (q ▸ hz))]; exact e, fun _ _ _ n => n⟩ ⟨S.sm.pre, fun a u e n => ?_, fun a u e => ?_, S.sm.new⟩ (fun p q => ?_) (fun i p q => ?_) S.omu (fun p q => ?_) S.cl
  · rw [upd_ne fun (q : a = D) => by rw [q, hz0] at e; cases e]
    exact S.sm.keep a u e n
  · rw [upd_ne fun (q : a = D) => by rw [q, hz0] at e; cases e]
    exact S.sm.live a u e
  · by_cases hp : p = D
    · subst hp
      exact ⟨o', upd_same, n1, n2⟩
    · obtain ⟨u, e, k⟩ := S.ok p q
      exact ⟨u, by rw [upd_ne hp]; exact e, k⟩
  · exact upd_ne fun (e : p = D) => ho i (e ▸ q)
  · exact upd_ne fun (e : p = D) => hm (e ▸ q)
/-- the list is made -/
theorem SRel.hpBack {D : Addr} (S : SRel W (z.add D) m ow ρ A σ H) : HRel W (muOf z.mu m ow) m A H :=
  S.hp.mono ⟨fun _ _ e _ => e, fun a u e n q => n (q.elim (fun h => .inl (.inl h)) .inr)⟩ S.ok fun _ _ => rfl
theorem Le.back {D : Addr} : Le (muOf (z.add D).mu m ow) H (muOf z.mu m ow) H := ⟨fun _ _ e _ => e, fun a u e n q => n (q.elim (fun h => .inl (.inl h)) .inr)⟩
end
/-! ### targets that are names -/
mutual
def evTp : IT → D → Env → Option Env
  | .nm i, d, ρ => setV ρ i d
  | .tp l, d, ρ => match d with
    | .tup ds => evTps l ds ρ
    | _ => none
def evTps : List IT → List D → Env → Option Env
  | [], [], ρ => some ρ
  | t :: ts, d :: ds, ρ => match evTp t d ρ with
    | some ρ' => evTps ts ds ρ'
    | none => none
  | _, _, _ => none
end
mutual
def ixT : IT → List Nat
  | .nm i => [i]
  | .tp l => ixTs l
def ixTs : List IT → List Nat
  | [] => []
  | t :: ts => ixT t ++ ixTs ts
end
/-- but at those slots -/
def Dif (l : List Nat) (σ σ' : L2.St) : Prop := σ'.length = σ.length ∧ ∀ j, j ∉ l → σ'[j]? = σ[j]?
theorem Dif.wipe {l vs : List Nat} {σ σ' : L2.St} (h : Dif l σ σ') (s : ∀ i ∈ l, i ∈ vs) : L2.wipe σ' vs = L2.wipe σ vs := by
  have key : ∀ (ws : List Nat) (j : Nat), (L2.wipe σ' ws)[j]? = if j ∈ ws then (if j < σ.length then some none else none) else σ'[j]? := by
    intro ws j
    induction ws with
    | nil => simp [L2.wipe]
    | cons w ws ih =>
      unfold L2.wipe
      by_cases q : w = j
      · subst q
        by_cases hl : w < σ.length
        · rw [List.getElem?_set_self (by rw [wipe_length, h.1]; exact hl)]
          simp [hl]
        · rw [List.getElem?_eq_none (by rw [List.length_set, wipe_length, h.1]; omega)]
          simp [hl]
      · rw [List.getElem?_set_ne q, ih]
        have : j ≠ w := fun e => q e.symm
        simp [this]
  have key2 : ∀ (ws : List Nat) (j : Nat), (L2.wipe σ ws)[j]? = if j ∈ ws then (if j < σ.length then some none else none) else σ[j]? := by
    intro ws j
    induction ws with
    | nil => simp [L2.wipe]
    | cons w ws ih =>
      unfold L2.wipe
      by_cases q : w = j
      · subst q
        by_cases hl : w < σ.length
        · rw [List.getElem?_set_self (by rw [wipe_length]; exact hl)]
          simp [hl]
        · rw [List.getElem?_eq_none (by rw [List.length_set, wipe_length]; omega)]
          simp [hl]
      · rw [List.getElem?_set_ne q, ih]
        have : j ≠ w := fun e => q e.symm
        simp [this]
  refine List.ext_getElem? fun j => ?_
  rw [key, key2]
  by_cases q : j ∈ vs
  · simp [q]
  · simp only [q, if_false]
    exact h.2 j fun z => q (s j z)
theorem Dif.refl (l σ) : Dif l σ σ := ⟨rfl, fun _ _ => rfl⟩
theorem Dif.trans {l l' : List Nat} {a b c : L2.St} (h : Dif l a b) (h' : Dif l' b c) : Dif (l ++ l') a c := ⟨h'.1.trans h.1, fun j hj => by
  rw [List.mem_append, not_or] at hj
  rw [h'.2 j hj.2, h.2 j hj.1]⟩
section
variable (W : Wd) (z : En)
def TGp (wk : Bool) (it : IT) : L2.TG := fun v σ H Q => ∃ m ow ρ A d ρ', SRel W z m ow ρ A σ H ∧ RepI wk W (muOf z.mu m ow) m H d v ∧ evTp it d ρ = some ρ' ∧ ∀ σ', Dif (ixT it) σ σ' → SRel W z m ow ρ' A σ' H → Q σ' H
def TGps (l : List IT) : L2.TGs := fun vs σ H Q => ∃ m ow ρ A ds ρ', SRel W z m ow ρ A σ H ∧ Reps W (muOf z.mu m ow) m H ds vs ∧ evTps l ds ρ = some ρ' ∧ ∀ σ', Dif (ixTs l) σ σ' → SRel W z m ow ρ' A σ' H → Q σ' H
end
theorem pg_weak {X : Cx} {tg : Expr} {t t' : L2.TG} (h : PG X tg t) (w : ∀ v σ H Q, t' v σ H Q → t v σ H Q) : PG X tg t' := ⟨fun pins s σ H v u Q I r q => h.run pins s σ H v u Q I r (w v σ H Q q)⟩
theorem pgs_weak {X : Cx} {ts : List Expr} {t t' : L2.TGs} (h : PGs X ts t) (w : ∀ v σ H Q, t' v σ H Q → t v σ H Q) : PGs X ts t' := ⟨fun pins s σ H v u Q I r q => h.run pins s σ H v u Q I r (w v σ H Q q)⟩
section
variable {X : Cx} {W : Wd} {z : En} {pos : Pos} {x : Str} {i : Nat}
theorem gp_nm (hN : X.N.Nodup) (hi : X.N[i]? = some x) (hx : Loc X.env.scope x) (hf : X.fn x = true ∨ X.env.scope.names.lookup x = some .local) : PG X (.Name x pos) (TGp W z false (.nm i)) :=
  pg_weak (pg_name hN hi hx hf) fun v σ H Q ⟨m, ow, ρ, A, d, ρ', S, r, e, q⟩ => q _ ⟨by simp, fun j hj => by rw [List.getElem?_set_ne (by simpa [ixT, eq_comm] using hj)]⟩ (S.setv e r)
theorem gps_nil : PGs X [] (TGps W z []) := pgs_weak pgs_nil fun v σ H Q ⟨m, ow, ρ, A, ds, ρ', S, r, e, q⟩ => by
  cases ds with
  | nil => cases e; cases r; exact ⟨rfl, q σ (Dif.refl _ _) S⟩
  | cons d ds => cases e
theorem asg_eq {E : PySem.Env} {e : Expr} {es : List Expr} (h : nst e = true) : assignEach (e :: es) E = (false, assign e E) :: assignEach es E := by
  cases e <;> first | rfl | cases h
theorem gps_cons {e : Expr} {es : List Expr} {t : IT} {ts : List IT} (h : PG X e (TGp W z false t)) (h2 : PGs X es (TGps W z ts)) (hn : nst e = true) : PGs X (e :: es) (TGps W z (t :: ts)) :=
  pgs_weak (pgs_cons h h2 (by rw [asg_eq hn]; rfl)) fun v σ H Q ⟨m, ow, ρ, A, ds, ρ', S, r, e, q⟩ => by
    cases ds with
    | nil => cases e
    | cons d ds =>
      have e : (match evTp t d ρ with | some ρ' => evTps ts ds ρ' | none => none) = some ρ' := e
      cases e1 : evTp t d ρ with
      | none => rw [e1] at e; cases e
      | some ρ1 =>
        rw [e1] at e
        obtain ⟨v, vr, rfl, r1, r2⟩ := r
        exact ⟨v, vr, rfl, m, ow, ρ, A, d, ρ1, S, r1, e1, fun σ1 d1 S1 => ⟨m, ow, ρ1, A, ds, ρ', S1, r2, e, fun σ2 d2 S2 => q σ2 (d1.trans d2) S2⟩⟩
theorem asg_len {E : PySem.Env} : ∀ {es : List Expr}, nsts es = true → (assignEach es E).length = es.length ∧ (assignEach es E).findIdx? (·.1) = none
  | [], _ => ⟨rfl, rfl⟩
  | e :: r, h => by
    obtain ⟨h1, h2⟩ := Bool.and_eq_true_iff.mp h
    obtain ⟨k1, k2⟩ := asg_len (E := E) h2
    rw [asg_eq h1]
    refine ⟨by simp [k1], ?_⟩
    rw [List.findIdx?_cons]
    simp [k2]
theorem evTps_len : ∀ {l : List IT} {ds : List D} {ρ ρ' : Env}, evTps l ds ρ = some ρ' → ds.length = l.length
  | [], [], _, _, _ => rfl
  | [], _ :: _, _, _, h => by cases h
  | _ :: _, [], _, _, h => by cases h
  | t :: ts, d :: ds, ρ, ρ', h => by
    have h : (match evTp t d ρ with | some ρ' => evTps ts ds ρ' | none => none) = some ρ' := h
    cases e1 : evTp t d ρ with
    | none => rw [e1] at h; cases h
    | some ρ1 => rw [e1] at h; simp [evTps_len h]
theorem gp_tp {es : List Expr} {k : Nat} {l : List IT} {wk : Bool} (c : CtxOk X W) (hc : X.calm = true) (h : PGs X es (TGps W z l)) (hn : nsts es = true) (hl : es.length = l.length) : PG X (.Tuple es k pos) (TGp W z wk (.tp l)) :=
  pg_weak (pg_tup (n := es.length) hc h (asg_len hn).1 (asg_len hn).2) fun v σ H Q ⟨m, ow, ρ, A, d, ρ', S, r, e, q⟩ => by
    cases d <;> first | (cases e; done) | skip
    rename_i ds
    have e : evTps l ds ρ = some ρ' := e
    have hd := evTps_len e
    cases wk with
    | false =>
      obtain ⟨p, vs, rfl, h1, h2⟩ := r
      exact ⟨p, vs, rfl, by rw [c.1]; exact h1.t, by rw [← h2.length, hd, hl], m, ow, ρ, A, ds, ρ', S, h2, e, q⟩
    | true =>
      obtain ⟨l', p, vs, e1, rfl, h1, h2⟩ := r
      cases e1
      exact ⟨p, vs, rfl, by rw [c.1]; exact h1, by rw [← h2.length, hd, hl], m, ow, ρ, A, ds, ρ', S, h2, e, q⟩
end
end Ev
end
section
set_option maxHeartbeats 2000000
namespace Ev
open PySem PySem.Spec PyProof.Rows L2
theorem pe_ex {α : Type} {X : Cx} {e : Expr} {t : α → TE} (h : ∀ i, PE X e (t i)) : PE X e (fun σ H Q => ∃ i, t i σ H Q) := ⟨fun pins s σ H Q I ⟨i, q⟩ => (h i).run pins s σ H Q I q⟩
theorem pts_ex {α : Type} {X : Cx} {e : List Expr} {t : α → TT} (h : ∀ i, PTs X e (t i)) : PTs X e (fun σ H Q => ∃ i, t i σ H Q) := ⟨fun pins s σ H Q I ⟨i, q⟩ => (h i).run pins s σ H Q I q⟩
theorem pg_ex {α : Type} {X : Cx} {e : Expr} {t : α → L2.TG} (h : ∀ i, PG X e (t i)) : PG X e (fun v σ H Q => ∃ i, t i v σ H Q) := ⟨fun pins s σ H v u Q I r ⟨i, q⟩ => (h i).run pins s σ H v u Q I r q⟩
theorem pi_ex {α : Type} {X : Cx} {tg e : Expr} {t : α → TI} (h : ∀ i, PI X tg e (t i)) : PI X tg e (fun σ H Q => ∃ i, t i σ H Q) := ⟨fun pins s σ H Q I ⟨i, q⟩ => (h i).run pins s σ H Q I q⟩
/-- the state behind, the new list apart -/
theorem SRel.stepN {W z m ow ρ A σ H m' A' H' ρ' σ'} {D : Addr} (S : SRel W z m ow ρ A σ H) (hD : H D = none) (s : Sm m H m' H') (S' : SRel W (z.add D) m' ow ρ' A' σ' H') : SRel W (z.add D) m' ow ρ A' σ H' := by
  have le : Le (muOf z.mu m ow) H (muOf (z.add D).mu m' ow) H' := ⟨fun a o e n => s.keep a o e fun q => n (.inr (.inl q)), fun a o e n q => by
    rcases q with (q | q) | q | q
    · exact n (.inl q)
    · rw [q, hD] at e; cases e
    · have := s.new a q fun y => n (.inr (.inl y))
      rw [e] at this
      cases this
    · exact n (.inr (.inr q))⟩
  exact ⟨S.len, S.own0, S'.ownm, S'.omu, S.inj, S.out, S'.sm, S'.ok, fun i sl e => by
    have q := S.slot i sl e
    cases sl with
    | no => exact q
    | clo => exact q
    | val d => obtain ⟨q1, v, q2, q3⟩ := q; exact ⟨q1, v, q2, q3.mono le S.ok s.pre⟩
    | own l' => obtain ⟨p, vs, q1, q2, q3, q4⟩ := q; exact ⟨p, vs, q1, q2, s.keep p _ q3 (S.ownm i p q1), q4.mono le S.ok s.pre⟩
    | ownD l' => obtain ⟨p, es, q1, q2, q3, k, q4⟩ := q; exact ⟨p, es, q1, q2, s.keep p _ q3 (S.ownm i p q1), k, q4.mono le S.ok s.pre⟩, S'.hp, S'.cl⟩
/-- nothing is let out -/
def F0 : WX := fun _ _ _ _ => False
def compF (t : IT) (fB : Env → M Bool) (fE : Env → M (List D)) (ρ : Env) (x : D) : M (List D) := (ofO (evTp t x ρ)).bind fun r => (fB r).bind fun c => if c then fE r else M.pure []
theorem bind_ok {α β : Type} {x : M α} {f : α → M β} {A : AH} {y : β} {A' : AH} (h : M.bind x f A = .ok y A') : ∃ a A1, x A = .ok a A1 ∧ f a A1 = .ok y A' := by
  unfold M.bind at h
  cases e : x A with
  | ok a A1 => rw [e] at h; exact ⟨a, A1, rfl, h⟩
  | exc x A1 => rw [e] at h; cases h
  | stuck => rw [e] at h; cases h
theorem ofO_ok {α : Type} {o : Option α} {A : AH} {y : α} {A' : AH} (h : ofO o A = .ok y A') : o = some y ∧ A' = A := by
  cases o with
  | none => cases h
  | some a => cases h; exact ⟨rfl, rfl⟩
theorem pure_ok {α : Type} {a : α} {A : AH} {y : α} {A' : AH} (h : M.pure a A = .ok y A') : a = y ∧ A' = A := by
  cases h; exact ⟨rfl, rfl⟩
theorem calm_ok {α : Type} {x : M α} {A : AH} {y : α} {A' : AH} (h : calm x A = .ok y A') : x A = .ok y A' := by
  unfold calm at h
  cases e : x A with
  | ok a A1 => rw [e] at h; exact h
  | exc x A1 => rw [e] at h; cases h
  | stuck => rw [e] at h; cases h
theorem calm_bind {α γ δ : Type} {W : Wd} {z : En} {Wx : WX} {m : List Addr} {ow : Ow} {ρ : Env} {σ : L2.St} {H : Hp} {rp : Rp γ δ} {Q : δ → Hp → Prop} {x : M α} {k : α → M γ} {A : AH} (h : OutG W z Wx rp m ow ρ σ H Q ((calm x).bind k A)) : ∃ a A1, x A = .ok a A1 ∧ OutG W z Wx rp m ow ρ σ H Q (k a A1) := by
  unfold M.bind at h
  cases e : calm x A with
  | ok a A1 => rw [e] at h; exact ⟨a, A1, calm_ok e, h⟩
  | exc y A1 =>
    exfalso
    unfold calm at e
    cases e2 : x A <;> rw [e2] at e <;> cases e
  | stuck => rw [e] at h; exact h.elim
/-- what says ok -/
theorem tg_ok {α β : Type} {W : Wd} {z : En} {Wx : WX} {rp : Rp α β} {f : Env → M α} {m : List Addr} {ow : Ow} {ρ : Env} {A A' : AH} {σ : L2.St} {H : Hp} {a : α} {Q : β → Hp → Prop} (S : SRel W z m ow ρ A σ H) (e : f ρ A = .ok a A')
    (h : ∀ m' H' v, Sm m H m' H' → SRel W z m' ow ρ A' σ H' → rp (muOf z.mu m' ow) m' H' a v → Q v H') : TG W z Wx rp f σ H Q := ⟨m, ow, ρ, A, S, by rw [e]; exact h⟩
theorem SRel.nD {W z m ow ρ A σ H m' H'} {D : Addr} (S : SRel W z m ow ρ A σ H) (s : Sm m H m' H') (hD : D ∉ m) {o : HO} (e : H D = some o) : D ∉ m' := fun q => by
  have := s.new D q hD
  rw [e] at this
  cases this
theorem Ld.sm {m H H'} (l : Ld H H') : Sm m H m H' := by
  rcases l with rfl | ⟨p, o, hp, rfl⟩
  · exact Sm.refl _ _
  · exact Sm.laid hp
theorem SRel.ld {W z m ow ρ A σ H H'} (S : SRel W z m ow ρ A σ H) (l : Ld H H') : SRel W z m ow ρ A σ H' := by
  rcases l with rfl | ⟨p, o, hp, rfl⟩
  · exact S
  · exact S.laid hp
/-- what a new object holds -/
def isNw : D → Bool
  | .lst _ => true
  | .dct _ => true
  | _ => false
def NwR (W : Wd) (mu : Addr → Prop) (m : List Addr) (H : Hp) (p : Addr) : D → Prop
  | .lst l => ∃ vs, H p = some (.lst vs) ∧ Reps W mu m H l vs
  | .dct l => ∃ es, H p = some (DictO p es) ∧ KvOk l ∧ RepE W mu m H l es.1.toList
  | _ => False
theorem NwR.mono {W : Wd} {mu mu' : Addr → Prop} {m m' : List Addr} {H H' : Hp} {p : Addr} {d : D} (h : NwR W mu m H p d) (l : Le mu H mu' H') (ok : MuOk mu H) (hm : m <+: m') (hp : ∀ o, H p = some o → H' p = some o) : NwR W mu' m' H' p d := by
  cases d with
  | lst l' => obtain ⟨vs, h1, h2⟩ := h; exact ⟨vs, hp _ h1, h2.mono l ok hm⟩
  | dct l' => obtain ⟨es, h1, k, h2⟩ := h; exact ⟨es, hp _ h1, k, h2.mono l ok hm⟩
  | _ => exact h.elim
theorem NwR.at {W : Wd} {mu : Addr → Prop} {m : List Addr} {H : Hp} {p : Addr} {d : D} (h : NwR W mu m H p d) : ∃ o, H p = some o ∧ (∀ xs, o ≠ .tup xs) ∧ (∀ ob u, o ≠ .frz ob u) := by
  cases d with
  | lst l' => obtain ⟨vs, h1, h2⟩ := h; exact ⟨_, h1, (fun _ z => by cases z), (fun _ _ z => by cases z)⟩
  | dct l' => obtain ⟨es, h1, k, h2⟩ := h; exact ⟨_, h1, (fun _ z => by cases z), (fun _ _ z => by cases z)⟩
  | _ => exact h.elim
/-- a new list or dict that nobody else knows -/
def OutN (W : Wd) (z : En) (Wx : WX) (m : List Addr) (ow : Ow) (ρ : Env) (σ : L2.St) (H : Hp) (Q : VK) : R D → Prop
  | .ok d A' => isNw d = true ∧ ∀ m' H' p, Sm m H m' H' → H p = none → SRel W (z.add p) m' ow ρ A' σ H' → p ∉ m' → NwR W (muOf (z.add p).mu m' ow) m' H' p d → Q (.ref p) H'
  | .exc x A' => ∀ m' H' cls dd, Sm m H m' H' → SRel W z m' ow ρ A' σ H' → ExR W (muOf z.mu m' ow) m' H' x cls dd → Wx cls dd σ H'
  | .stuck => False
def TN (W : Wd) (z : En) (Wx : WX) (f : Env → M D) : TE := fun σ H Q => ∃ m ow ρ A, SRel W z m ow ρ A σ H ∧ OutN W z Wx m ow ρ σ H Q (f ρ A)
section
variable {W : Wd} {z : En} {Wx : WX} {m m' : List Addr} {ow : Ow} {ρ : Env} {A : AH} {σ : L2.St} {H H' : Hp} {Q : VK}
theorem OutN.later {r : R D} (h : OutN W z Wx m ow ρ σ H Q r) (s : Sm m H m' H') : OutN W z Wx m' ow ρ σ H' Q r := by
  have nn : ∀ p, H' p = none → H p = none := fun p e => by
    cases e2 : H p with
    | none => rfl
    | some o =>
      obtain ⟨o', h'⟩ := s.live p o e2
      rw [e] at h'
      cases h'
  cases r with
  | ok d A' => exact ⟨h.1, fun m2 H2 p s2 hp => h.2 m2 H2 p (s.trans s2) (nn p hp)⟩
  | exc x A' => exact fun m2 H2 c dd s2 => h m2 H2 c dd (s.trans s2)
  | stuck => exact h
theorem tn_then {α β : Type} {rp : Rp α β} {fa : Env → M α} {k : α → M D} {P : β → Hp → Prop} (S : SRel W z m ow ρ A σ H) (h : OutN W z Wx m ow ρ σ H Q ((fa ρ).bind k A))
    (hk : ∀ m' H' A' d v, Sm m H m' H' → SRel W z m' ow ρ A' σ H' → rp (muOf z.mu m' ow) m' H' d v → OutN W z Wx m' ow ρ σ H' Q (k d A') → P v H') : TG W z Wx rp fa σ H P := by
  refine ⟨m, ow, ρ, A, S, ?_⟩
  unfold M.bind at h
  cases e : fa ρ A with
  | ok d A' =>
    rw [e] at h
    exact fun m' H' v s S' r => hk m' H' A' d v s S' r (OutN.later h s)
  | exc x A' => rw [e] at h; exact h
  | stuck => rw [e] at h; exact h.elim
theorem ofOn {α : Type} {o : Option α} {k : α → M D} (h : OutN W z Wx m ow ρ σ H Q ((ofO o).bind k A)) : ∃ d, o = some d ∧ OutN W z Wx m ow ρ σ H Q (k d A) := by
  cases o with
  | none => exact h.elim
  | some d => exact ⟨d, rfl, h⟩
theorem grdn {c : Bool} {k : Unit → M D} (h : OutN W z Wx m ow ρ σ H Q ((grd c).bind k A)) : c = true ∧ OutN W z Wx m ow ρ σ H Q (k () A) := by
  cases c with
  | false => exact h.elim
  | true => exact ⟨rfl, h⟩
theorem calm_n {α : Type} {x : M α} {k : α → M D} (h : OutN W z Wx m ow ρ σ H Q ((calm x).bind k A)) : ∃ a A1, x A = .ok a A1 ∧ OutN W z Wx m ow ρ σ H Q (k a A1) := by
  unfold M.bind at h
  cases e : calm x A with
  | ok a A1 => rw [e] at h; exact ⟨a, A1, calm_ok e, h⟩
  | exc y A1 =>
    exfalso
    unfold calm at e
    cases e2 : x A <;> rw [e2] at e <;> cases e
  | stuck => rw [e] at h; exact h.elim
/-- as any value -/
theorem out_n {bb : Bool} {r : R D} (S : SRel W z m ow ρ A σ H) (hr : ∀ d A', r = .ok d A' → isNw d = true) (h : OutE W z Wx bb m ow ρ σ H Q r) : OutN W z Wx m ow ρ σ H Q r := by
  cases r with
  | ok d A' =>
    refine ⟨hr d A' rfl, fun m' H' p s hp S' nm r => ?_⟩
    have nD : ¬ muOf z.mu m' ow p := fun q => by
      rcases q with q | q | ⟨i, q⟩
      · obtain ⟨o, e, _⟩ := S.ok p (.inl q)
        rw [hp] at e
        cases e
      · exact nm q
      · exact S'.omu i p q (.inr rfl)
    refine h m' H' (.ref p) s (S.step s S'.hpBack) (repx ?_)
    cases d with
    | lst l => obtain ⟨vs, hv, r⟩ := r; exact ⟨p, vs, rfl, ⟨hv, nD⟩, r.mono Le.back S'.ok ⟨[], by simp⟩⟩
    | dct l => obtain ⟨es, hv, k, r⟩ := r; exact ⟨p, es, rfl, hv, nD, k, r.mono Le.back S'.ok ⟨[], by simp⟩⟩
    | _ => exact r.elim
  | exc x A' => exact h
  | stuck => exact h
end
section
variable {X : Cx} {W : Wd} {z : En} {Wx : WX} {b wk bb : Bool} {elt tg iter : Expr} {ifs : List Expr} {scope : Scope} {own : List (Str × Nat)} {pos : Pos} {fi : Env → M (List D)} {fB : Env → M Bool} {fe : Env → M D} {t : IT}
abbrev XG (W : Wd) (wk : Bool) (t : IT) : L2.TG := fun v σ H Q => ∃ z, TGp W z wk t v σ H Q
abbrev XB (W : Wd) (fB : Env → M Bool) : TT := fun σ H Q => ∃ z, TG W z F0 RpB fB σ H Q
abbrev XE (W : Wd) (fe : Env → M D) : TE := fun σ H Q => ∃ z, TEv W z F0 false fe σ H Q
abbrev XI (W : Wd) (wk : Bool) (fi : Env → M (List D)) : TI := fun σ H Q => ∃ z, TG W z F0 (SqR true wk W) fi σ H Q
def evLc (own : List Nat) (t : IT) (fi : Env → M (List D)) (fB : Env → M Bool) (fE : Env → M (List D)) : Env → M D := fun ρ => (fi ρ).bind fun xs => (ofO (slot0 ρ own)).bind fun ρ' => (calm (compM xs (compF t fB fE ρ'))).bind fun l => (grd (decide (l.length ≤ sizeLine))).bind fun _ => M.pure (.lst l)
theorem lc_n {σ : L2.St} {H : Hp} {Q : VK} (hsub : ∀ i ∈ ixT t, i ∈ own.map (·.2)) (q : TN W z Wx (evLc (own.map (·.2)) t fi fB (fun r => (fe r).bind fun d => M.pure [d])) σ H Q) :
    tLc (TG W z Wx (SqR b wk W) fi) (XG W wk t) (XB W fB) (XE W fe) (own.map (·.2)) σ H Q := by
  obtain ⟨m, ow, ρ, A, S, q⟩ := q
  refine tn_then (fa := fi) S q fun m1 H1 A1 ds J s1 S1 r1 q1 => ?_
  intro D hD
  obtain ⟨ρ', eρ, q2⟩ := ofOn q1
  obtain ⟨l, A2, el, q3⟩ := calm_n q2
  obtain ⟨gl, q4⟩ := grdn q3
  have gl := of_decide_eq_true gl
  have SD : SRel W (z.add D) m1 ow ρ' A1 (wipe σ (own.map (·.2))) (upd H1 D (.lst [])) := (S1.wipe eρ).addD hD (fun _ z => by cases z) (fun _ _ z => by cases z)
  have hDm : D ∉ m1 := fun h => by
    obtain ⟨o, e⟩ := S1.memH h
    rw [hD] at e
    cases e
  have hDo : ∀ i, ow i ≠ some D := fun i h => by
    obtain ⟨o, e⟩ := S1.ownH h
    rw [hD] at e
    cases e
  have hz0 : (z.add D).H D = none := S1.zH hD
  refine ⟨fun i n H => n = ds.length - i ∧ i ≤ ds.length ∧ ∃ m A acc accD rest, SRel W (z.add D) m ow ρ' A (wipe σ (own.map (·.2))) H ∧ Sm m1 H1 m H ∧ H D = some (.lst acc) ∧ D ∉ m ∧ Reps W (muOf (z.add D).mu m ow) m H accD acc ∧
    compM (ds.drop i) (compF t fB (fun r => (fe r).bind fun d => M.pure [d]) ρ') A = .ok rest A2 ∧ accD ++ rest = l, ⟨ds.length, by simp, Nat.zero_le _, m1, A1, [], [], l, SD, Sm.laid hD, upd_same, hDm, rfl, el, rfl⟩, ?_⟩
  rintro i n H ⟨rfl, hi, m, A, acc, accD, rest, SH, sm, hDH, hDm, ra, ec, el2⟩
  have le1 : Le (muOf z.mu m1 ow) H1 (muOf (z.add D).mu m ow) H := ⟨fun a o e n => sm.keep a o e fun q => n (.inr (.inl q)), fun a o e n q => by
    rcases q with (q | q) | q | q
    · exact n (.inl q)
    · rw [q, hD] at e; cases e
    · have := sm.new a q fun y => n (.inr (.inl y))
      rw [e] at this
      cases this
    · exact n (.inr (.inr q))⟩
  have sq := r1 (muOf (z.add D).mu m ow) m H le1 SH.ok sm.pre fun _ => fun a o e n => sm.keep a o e n
  by_cases hlt : i < ds.length
  · right
    have ed : ds[i]? = some ds[i] := List.getElem?_eq_getElem hlt
    obtain ⟨go, yl⟩ := sq.go i ds[i] ed
    have edr : ds.drop i = ds[i] :: ds.drop (i + 1) := (List.drop_eq_getElem_cons hlt)
    rw [edr] at ec
    obtain ⟨a, A3, ea, ec⟩ := bind_ok ec
    obtain ⟨r2, A4, er, ec⟩ := bind_ok ec
    obtain ⟨rfl, rfl⟩ := pure_ok ec
    obtain ⟨ρ2, A5, eT0, ea1⟩ := bind_ok ea
    obtain ⟨eT, eA5⟩ := ofO_ok eT0
    subst eA5
    obtain ⟨cB, A6, eB, ea2⟩ := bind_ok ea1
    clear eT0 ea ea1
    refine ⟨go, fun H' => ∃ m A acc accD rest, SRel W (z.add D) m ow ρ' A (wipe σ (own.map (·.2))) H' ∧ Sm m1 H1 m H' ∧ H' D = some (.lst acc) ∧ D ∉ m ∧ Reps W (muOf (z.add D).mu m ow) m H' accD acc ∧
      compM (ds.drop (i + 1)) (compF t fB (fun r => (fe r).bind fun d => M.pure [d]) ρ') A = .ok rest A2 ∧ accD ++ rest = l, fun H' hp => ⟨ds.length - (i + 1), by omega, rfl, hlt, hp⟩, fun x H' y => ?_⟩
    obtain ⟨ld, ri⟩ := yl x H' y
    have SH' := SH.ld ld
    have sm' : Sm m H m H' := ld.sm
    refine ⟨z.add D, m, ow, ρ', A5, ds[i], ρ2, SH', ri, eT, fun σ2 dif S2 => ⟨dif.wipe hsub |>.trans ?_, ?_⟩⟩
    · -- wiped twice is wiped
      exact (Dif.wipe (l := own.map (·.2)) (σ := σ) (σ' := wipe σ (own.map (·.2))) ⟨wipe_length _ _, fun j hj => wipe_out hj⟩ fun i h => h)
    · refine ⟨z.add D, tg_ok S2 eB fun m6 H6 c6 s6 S6 e6 => ?_⟩
      have e6 : cB = c6 := e6
      subst e6
      have hD6 : H6 D = some (.lst acc) := s6.keep D _ (sm'.keep D _ hDH hDm) hDm
      have hDm6 : D ∉ m6 := S2.nD s6 hDm (sm'.keep D _ hDH hDm)
      have sm6 : Sm m1 H1 m6 H6 := (sm.trans sm').trans s6
      have ra6 : Reps W (muOf (z.add D).mu m6 ow) m6 H6 accD acc := (ra.mono sm'.le SH.ok sm'.pre).mono s6.le SH'.ok s6.pre
      -- back to the loop's own slots
      have back : ∀ {m7 : List Addr} {A7 : AH} {H7 : Hp}, SRel W (z.add D) m7 ow ρ2 A7 σ2 H7 → Sm m H' m7 H7 → SRel W (z.add D) m7 ow ρ' A7 (wipe σ (own.map (·.2))) H7 := fun {m7 A7 H7} S7 s7 => SH'.step s7 S7.hp
      cases cB with
      | false =>
        simp only [Bool.false_eq_true, if_false] at ea2 ⊢
        obtain ⟨rfl, rfl⟩ := pure_ok ea2
        exact ⟨m6, A3, acc, accD, r2, back S6 s6, sm6, hD6, hDm6, ra6, er, by simpa using el2⟩
      | true =>
        simp only [if_true] at ea2 ⊢
        obtain ⟨d, A7, ed2, ea3⟩ := bind_ok ea2
        obtain ⟨rfl, rfl⟩ := pure_ok ea3
        refine ⟨z.add D, tg_ok S6 ed2 fun m8 H8 v8 s8 S8 r8 => ?_⟩
        have hD8 : H8 D = some (.lst acc) := s8.keep D _ hD6 hDm6
        have hDm8 : D ∉ m8 := S6.nD s8 hDm6 hD6
        have ra8 := ra6.mono s8.le S6.ok s8.pre
        have hlen : acc.length < sizeLine := by
          have e1 := congrArg List.length el2
          have e2 := ra6.length
          simp only [List.length_append, List.length_cons, List.length_nil] at e1
          omega
        have zmu : (z.add D).mu D := .inr rfl
        have S9 := (back S8 (s6.trans s8)).updD (o' := .lst (acc ++ [v8])) zmu hD8 hz0 hDm8 hDo (fun _ z => by cases z) (fun _ _ z => by cases z)
        have le9 : Le (muOf (z.add D).mu m8 ow) H8 (muOf (z.add D).mu m8 ow) (upd H8 D (.lst (acc ++ [v8]))) := ⟨fun a u e n => by rw [upd_ne fun (q : a = D) => n (.inl (q ▸ zmu))]; exact e, fun _ _ _ n => n⟩
        refine ⟨acc, hD8, hlen, m8, A3, acc ++ [v8], accD ++ [d], r2, S9, ⟨sm6.pre.trans s8.pre, fun a o e n => ?_, fun a o e => ?_, fun p h n => (sm6.trans s8).new p h n⟩, upd_same, hDm8, (ra8.append (Reps.one r8)).mono le9 S8.ok ⟨[], by simp⟩, er, by simpa using el2⟩
        · rw [upd_ne (ne_of_none e hD)]
          exact (sm6.trans s8).keep a o e n
        · rw [upd_ne (ne_of_none e hD)]
          exact (sm6.trans s8).live a o e
  · left
    have ei : i = ds.length := by omega
    subst ei
    refine ⟨sq.stop, ?_⟩
    rw [List.drop_length] at ec
    obtain ⟨rfl, rfl⟩ := pure_ok ec
    rw [List.append_nil] at el2
    subst el2
    have S0 : SRel W (z.add D) m1 ow ρ A1 σ (upd H1 D (.lst [])) := S1.addD hD (fun _ z => by cases z) (fun _ _ z => by cases z)
    exact q4.2 m H D sm hD (S1.stepN hD sm SH) hDm ⟨acc, hDH, ra⟩
theorem tev_n {f : Env → M D} {σ : L2.St} {H : Hp} {Q : VK} (hr : ∀ ρ A d A', f ρ A = .ok d A' → isNw d = true) (q : TEv W z Wx bb f σ H Q) : TN W z Wx f σ H Q := by
  obtain ⟨m, ow, ρ, A, S, q⟩ := q
  exact ⟨m, ow, ρ, A, S, out_n S (fun d A' => hr ρ A d A') q⟩
theorem evLc_lst {own : List Nat} {fE : Env → M (List D)} {ρ : Env} {A A' : AH} {d : D} (h : evLc own t fi fB fE ρ A = .ok d A') : isNw d = true := by
  obtain ⟨xs, A1, h1, h2⟩ := bind_ok h
  obtain ⟨ρ', A2, h3, h4⟩ := bind_ok h2
  obtain ⟨l, A3, h5, h6⟩ := bind_ok h4
  obtain ⟨u, A4, h7, h8⟩ := bind_ok h6
  rw [← (pure_ok h8).1]
  rfl
/-- [elt for tg in iter if ..] -/
structure LcOk (X : Cx) (W : Wd) (scope : Scope) (tg : Expr) (wk : Bool) (t : IT) (ifs : List Expr) (fB : Env → M Bool) : Prop where
  hg : ∀ (z : En) (s : Shared) (H : Hp) (C : Addr) (cl : List (Str × Addr)) (fp : List Addr), PG (X.blk s H scope (compEnvC scope cl C X.env) fp) tg (TGp W z wk t)
  ht : ∀ (z : En) (s : Shared) (H : Hp) (C : Addr) (cl : List (Str × Addr)) (fp : List Addr), PTs (X.blk s H scope (compEnvC scope cl C X.env) fp) ifs (TG W z F0 RpB fB)
def BlE (X : Cx) (W : Wd) (scope : Scope) (e : Expr) (f : Env → M D) : Prop := ∀ (z : En) (s : Shared) (H : Hp) (C : Addr) (cl : List (Str × Addr)) (fp : List Addr), GE (X.blk s H scope (compEnvC scope cl C X.env) fp) W z F0 false e f
def BlI (X : Cx) (W : Wd) (scope : Scope) (tg e : Expr) (wk : Bool) (f : Env → M (List D)) : Prop := ∀ (z : En) (s : Shared) (H : Hp) (C : Addr) (cl : List (Str × Addr)) (fp : List Addr), GI (X.blk s H scope (compEnvC scope cl C X.env) fp) W z F0 true wk tg e f
theorem ge_lc (hc : X.calm = true) (hN : X.N.Nodup) (hi : GI X W z Wx b wk tg iter fi) (ok : BlkOk X.N X.env.scope scope own) (h1 : LcOk X W scope tg wk t ifs fB) (he : BlE X W scope elt fe)
    (hsub : ∀ i ∈ ixT t, i ∈ own.map (·.2)) (hs : ∀ x, foldedSetIterable iter X.env x = pure x) :
    GE X W z Wx bb (.ListComp elt [⟨tg, iter, ifs, 0⟩] scope pos) (evLc (own.map (·.2)) t fi fB (fun r => (fe r).bind fun d => M.pure [d])) :=
  pe_weak (pe_lc hc hN hi ok (fun s H C cl fp => pg_ex fun z => h1.hg z s H C cl fp) (fun s H C cl fp => pts_ex fun z => h1.ht z s H C cl fp) (fun s H C cl fp => pe_ex fun z => he z s H C cl fp) hs) fun σ H Q q => lc_n hsub (tev_n (fun ρ A d A' h => evLc_lst h) q)
end
end Ev
end
section
set_option maxHeartbeats 2000000
namespace Ev
open PySem PySem.Spec PyProof.Rows L2
/-- from one state to a later one, but at D -/
structure SmD (D : Addr) (m : List Addr) (H : Hp) (m' : List Addr) (H' : Hp) : Prop where
  pre : m <+: m'
  keep : ∀ a o, H a = some o → a ∉ m → a ≠ D → H' a = some o
  live : ∀ a o, H a = some o → ∃ o', H' a = some o'
  new : ∀ p, p ∈ m' → p ∉ m → H p = none
theorem Sm.D {D m H m' H'} (s : Sm m H m' H') : SmD D m H m' H' := ⟨s.pre, fun a o e n _ => s.keep a o e n, s.live, s.new⟩
theorem SmD.sub {D m H m' H'} (s : SmD D m H m' H') {p} (h : p ∈ m) : p ∈ m' := by
  obtain ⟨t, rfl⟩ := s.pre
  exact List.mem_append_left _ h
theorem SmD.trans {D m1 H1 m2 H2 m3 H3} (a : SmD D m1 H1 m2 H2) (b : SmD D m2 H2 m3 H3) : SmD D m1 H1 m3 H3 where
  pre := a.pre.trans b.pre
  keep := fun p o h n d => b.keep p o (a.keep p o h n d) (fun z => by
    have := a.new p z n
    rw [h] at this
    cases this) d
  live := fun p o h => by
    obtain ⟨o', h'⟩ := a.live p o h
    exact b.live p o' h'
  new := fun p h n => by
    by_cases q : p ∈ m2
    · exact a.new p q n
    · have e := b.new p h q
      cases e1 : H1 p with
      | none => rfl
      | some o =>
        obtain ⟨o', h'⟩ := a.live p o e1
        rw [e] at h'
        cases h'
theorem SmD.upd {D m H o} : SmD D m H m (upd H D o) := ⟨⟨[], by simp⟩, fun a u e _ n => by rw [upd_ne n]; exact e, fun a u e => by
  by_cases q : a = D
  · subst q; exact ⟨o, upd_same⟩
  · exact ⟨u, by rw [upd_ne q]; exact e⟩, fun p h n => absurd h n⟩
/-- D new, then S: so it is from ahead of D -/
theorem SmD.sm {D m H m' H'} (s : SmD D m H m' H') (h : H D = none) : Sm m H m' H' := ⟨s.pre, fun a o e n => s.keep a o e n (ne_of_none e h), s.live, s.new⟩
section
variable {X : Cx} {W : Wd} {z : En} {m m' : List Addr} {ow : Ow} {ρ ρ' : Env} {A A' : AH} {σ σ' : L2.St} {H H' : Hp}
theorem SmD.le {D : Addr} (s : SmD D m H m' H') (hz : z.mu D) : Le (muOf z.mu m ow) H (muOf z.mu m' ow) H' := ⟨fun a o e n => s.keep a o e (fun q => n (.inr (.inl q))) fun q => n (.inl (q ▸ hz)), fun a o e n q => by
  rcases q with q | q | q
  · exact n (.inl q)
  · have := s.new a q fun y => n (.inr (.inl y))
    rw [e] at this
    cases this
  · exact n (.inr (.inr q))⟩
theorem SRel.stepD {D : Addr} (S : SRel W z m ow ρ A σ H) (s : SmD D m H m' H') (hz : z.mu D) (hz0 : z.H D = none) {o : HO} (hD : H' D = some o) (n1 : ∀ xs, o ≠ .tup xs) (n2 : ∀ ob u, o ≠ .frz ob u) (ho : ∀ i, ow i ≠ some D) (h : HRel W (muOf z.mu m' ow) m' A' H') : SRel W z m' ow ρ A' σ H' where
  len := S.len
  own0 := S.own0
  ownm := fun i p e y => by
    by_cases q : p ∈ m
    · exact S.ownm i p e q
    · have := s.new p y q
      obtain ⟨o, h1⟩ := S.ownH e
      rw [this] at h1
      cases h1
  omu := S.omu
  inj := S.inj
  out := S.out
  sm := by
    refine ⟨S.sm.pre.trans s.pre, fun a u e n => ?_, fun a u e => ?_, fun p h1 n => ?_⟩
    · refine s.keep a u (S.sm.keep a u e n) (fun q => ?_) fun q => ?_
      · have := S.sm.new a q n
        rw [e] at this
        cases this
      · rw [q, hz0] at e
        cases e
    · obtain ⟨o', h'⟩ := S.sm.live a u e
      exact s.live a o' h'
    · by_cases q : p ∈ m
      · exact S.sm.new p q n
      · have e := s.new p h1 q
        cases e1 : z.H p with
        | none => rfl
        | some u =>
          obtain ⟨o', h'⟩ := S.sm.live p u e1
          rw [e] at h'
          cases h'
  ok := fun p w => by
    by_cases q : p ∈ m'
    · obtain ⟨i, o, h1, h2, h3⟩ := h.at q
      exact h3.good
    · have nm : p ∉ m := fun y => q (s.sub y)
      by_cases hp : p = D
      · subst hp
        exact ⟨o, hD, n1, n2⟩
      · have w' : muOf z.mu m ow p := by
          rcases w with w | w | w
          · exact .inl w
          · exact absurd w q
          · exact .inr (.inr w)
        obtain ⟨u, h1, h2⟩ := S.ok p w'
        exact ⟨u, s.keep p u h1 nm hp, h2⟩
  slot := fun i sl e => by
    have q := S.slot i sl e
    cases sl with
    | no => exact q
    | clo => exact q
    | val d => obtain ⟨q1, v, q2, q3⟩ := q; exact ⟨q1, v, q2, q3.mono (s.le hz) S.ok s.pre⟩
    | own l => obtain ⟨p, vs, q1, q2, q3, q4⟩ := q; exact ⟨p, vs, q1, q2, s.keep p _ q3 (S.ownm i p q1) (fun e => ho i (e ▸ q1)), q4.mono (s.le hz) S.ok s.pre⟩
    | ownD l => obtain ⟨p, es, q1, q2, q3, k, q4⟩ := q; exact ⟨p, es, q1, q2, s.keep p _ q3 (S.ownm i p q1) (fun e => ho i (e ▸ q1)), k, q4.mono (s.le hz) S.ok s.pre⟩
  hp := h
  cl := S.cl
end
/-- a list comprehension's state: D the new list, accD what it holds -/
structure Ac (W : Wd) (z : En) (D : Addr) (m1 : List Addr) (H1 : Hp) (ow : Ow) (ρ : Env) (σ : L2.St) (m : List Addr) (A : AH) (H : Hp) (accD : List Ev.D) : Prop where
  S : SRel W (z.add D) m ow ρ A σ H
  sm : Sm m1 H1 m H
  nm : D ∉ m
  acc : ∃ acc, H D = some (.lst acc) ∧ Reps W (muOf (z.add D).mu m ow) m H accD acc
section
variable {W : Wd} {z : En} {D : Addr} {m1 m m' : List Addr} {H1 H H' : Hp} {ow : Ow} {ρ ρ' : Env} {σ σ' : L2.St} {A A' : AH} {accD : List Ev.D}
theorem Ac.sm' (a : Ac W z D m1 H1 ow ρ σ m A H accD) (s : Sm m H m' H') (S' : SRel W (z.add D) m' ow ρ' A' σ' H') : Ac W z D m1 H1 ow ρ' σ' m' A' H' accD := by
  obtain ⟨acc, h1, h2⟩ := a.acc
  exact ⟨S', a.sm.trans s, a.S.nD s a.nm h1, acc, s.keep D _ h1 a.nm, h2.mono s.le a.S.ok s.pre⟩
theorem Ac.ld (a : Ac W z D m1 H1 ow ρ σ m A H accD) (l : Ld H H') : Ac W z D m1 H1 ow ρ σ m A H' accD := a.sm' l.sm (a.S.ld l)
/-- back at an earlier turn's slots -/
theorem Ac.back {σ0 : L2.St} {ρ0 : Env} {m0 : List Addr} {A0 : AH} {H0 : Hp} (S0 : SRel W (z.add D) m0 ow ρ0 A0 σ0 H0) (hz0 : z.H D = none) (ho : ∀ i, ow i ≠ some D) (s : SmD D m0 H0 m H) (a : Ac W z D m1 H1 ow ρ σ m A H accD) : Ac W z D m1 H1 ow ρ0 σ0 m A H accD := by
  obtain ⟨acc, h1, h2⟩ := a.acc
  exact ⟨S0.stepD s (.inr rfl) hz0 h1 (fun _ z => by cases z) (fun _ _ z => by cases z) ho a.S.hp, a.sm, a.nm, acc, h1, h2⟩
theorem Ac.len (a : Ac W z D m1 H1 ow ρ σ m A H accD) {acc : List V} (e : H D = some (.lst acc)) : accD.length = acc.length := by
  obtain ⟨acc', h1, h2⟩ := a.acc
  rw [e] at h1
  cases h1
  exact h2.length
/-- one more -/
theorem Ac.app (a : Ac W z D m1 H1 ow ρ σ m A H accD) (hz0 : z.H D = none) (ho : ∀ i, ow i ≠ some D) (h1n : H1 D = none) {acc : List V} (e : H D = some (.lst acc)) {d : Ev.D} {v : V} (r : Rep W (muOf (z.add D).mu m ow) m H d v) :
    Ac W z D m1 H1 ow ρ σ m A (upd H D (.lst (acc ++ [v]))) (accD ++ [d]) := by
  obtain ⟨acc', h1, h2⟩ := a.acc
  rw [e] at h1
  cases h1
  have le9 : Le (muOf (z.add D).mu m ow) H (muOf (z.add D).mu m ow) (upd H D (.lst (acc ++ [v]))) := (SmD.upd (m := m)).le (.inr rfl)
  exact ⟨a.S.updD (.inr rfl) e hz0 a.nm ho (fun _ z => by cases z) (fun _ _ z => by cases z), (a.sm.D.trans SmD.upd).sm h1n, a.nm, _, upd_same, (h2.append (Reps.one r)).mono le9 a.S.ok ⟨[], by simp⟩⟩
/-- the start -/
theorem Ac.init {own : List Nat} (S1 : SRel W z m1 ow ρ A σ H1) (eρ : slot0 ρ own = some ρ') (hD : H1 D = none) : Ac W z D m1 H1 ow ρ' (wipe σ own) m1 A (upd H1 D (.lst [])) [] :=
  ⟨(S1.wipe eρ).addD hD (fun _ z => by cases z) (fun _ _ z => by cases z), Sm.laid hD, (fun h => by
    obtain ⟨o, e⟩ := S1.memH h
    rw [hD] at e
    cases e), [], upd_same, rfl⟩
/-- the end -/
theorem Ac.done (S1 : SRel W z m1 ow ρ A σ H1) (hD : H1 D = none) (a : Ac W z D m1 H1 ow ρ' σ' m A' H accD) : SRel W z m ow ρ A' σ H ∧ Rep W (muOf z.mu m ow) m H (.lst accD) (.ref D) := by
  obtain ⟨acc, h1, h2⟩ := a.acc
  have nD : ¬ muOf z.mu m ow D := fun q => by
    rcases q with q | q | ⟨i, q⟩
    · obtain ⟨o, e, _⟩ := S1.ok D (.inl q)
      rw [hD] at e
      cases e
    · exact a.nm q
    · obtain ⟨o, e⟩ := S1.ownH q
      rw [hD] at e
      cases e
  exact ⟨S1.step a.sm a.S.hpBack, D, acc, rfl, ⟨h1, nD⟩, h2.mono Le.back a.S.ok ⟨[], by simp⟩⟩
end
section
variable {X : Cx} {W : Wd} {z : En} {Wx : WX} {b wk wk1 bb : Bool} {elt tg iter tg1 iter1 : Expr} {ifs ifs1 : List Expr} {scope : Scope} {own : List (Str × Nat)} {pos : Pos} {fi fi1 : Env → M (List D)} {fB fB1 : Env → M Bool} {fe : Env → M D} {t t1 : IT} {vs1 : List Nat}
abbrev XI2 (W : Wd) (wk : Bool) (fi : Env → M (List D)) : TI := fun σ H Q => ∃ z, TG W z F0 (SqR false wk W) fi σ H Q
def inF (vs1 : List Nat) (t1 : IT) (fi1 : Env → M (List D)) (fB1 : Env → M Bool) (fE : Env → M (List D)) : Env → M (List D) := fun r => (fi1 r).bind fun ys => (ofO (slot0 r vs1)).bind fun r' => compM ys (compF t1 fB1 fE r')
theorem lc2_n {σ : L2.St} {H : Hp} {Q : VK} (hsub : ∀ i ∈ ixT t, i ∈ own.map (·.2)) (hsub1 : ∀ i ∈ ixT t1, i ∈ vs1) (q : TN W z Wx (evLc (own.map (·.2)) t fi fB (inF vs1 t1 fi1 fB1 (fun r => (fe r).bind fun d => M.pure [d]))) σ H Q) :
    tLc2 (TG W z Wx (SqR b wk W) fi) (XG W wk t) (XB W fB) (XI2 W wk1 fi1) (XG W wk1 t1) (XB W fB1) (XE W fe) (own.map (·.2)) vs1 σ H Q := by
  obtain ⟨m, ow, ρ, A, S, q⟩ := q
  refine tn_then (fa := fi) S q fun m1 H1 A1 ds J s1 S1 r1 q1 => ?_
  intro D hD
  obtain ⟨ρ', eρ, q2⟩ := ofOn q1
  obtain ⟨l, A2, el, q3⟩ := calm_n q2
  obtain ⟨gl, q4⟩ := grdn q3
  have gl := of_decide_eq_true gl
  have hDo : ∀ i, ow i ≠ some D := fun i h => by
    obtain ⟨o, e⟩ := S1.ownH h
    rw [hD] at e
    cases e
  have hz0 : z.H D = none := S1.zH hD
  generalize hF1 : (compF t1 fB1 (fun r => (fe r).bind fun d => M.pure [d]) : Env → Ev.D → M (List Ev.D)) = F1 at *
  refine ⟨fun i n H => n = ds.length - i ∧ i ≤ ds.length ∧ ∃ m A accD rest, Ac W z D m1 H1 ow ρ' (wipe σ (own.map (·.2))) m A H accD ∧
    compM (ds.drop i) (compF t fB (inF vs1 t1 fi1 fB1 (fun r => (fe r).bind fun d => M.pure [d])) ρ') A = .ok rest A2 ∧ accD ++ rest = l, ⟨ds.length, by simp, Nat.zero_le _, m1, A1, [], l, Ac.init S1 eρ hD, el, rfl⟩, ?_⟩
  rintro i n H ⟨rfl, hi, m, A, accD, rest, ac, ec, el2⟩
  have le1 : Le (muOf z.mu m1 ow) H1 (muOf (z.add D).mu m ow) H := ⟨fun a o e n => ac.sm.keep a o e fun q => n (.inr (.inl q)), fun a o e n q => by
    rcases q with (q | q) | q | q
    · exact n (.inl q)
    · rw [q, hD] at e; cases e
    · have := ac.sm.new a q fun y => n (.inr (.inl y))
      rw [e] at this
      cases this
    · exact n (.inr (.inr q))⟩
  have sq := r1 (muOf (z.add D).mu m ow) m H le1 ac.S.ok ac.sm.pre fun _ => fun a o e n => ac.sm.keep a o e n
  by_cases hlt : i < ds.length
  · right
    have ed : ds[i]? = some ds[i] := List.getElem?_eq_getElem hlt
    obtain ⟨go, yl⟩ := sq.go i ds[i] ed
    have edr : ds.drop i = ds[i] :: ds.drop (i + 1) := (List.drop_eq_getElem_cons hlt)
    rw [edr] at ec
    obtain ⟨a, A3, ea, ec1⟩ := bind_ok ec
    obtain ⟨r2, A4, er, ec2⟩ := bind_ok ec1
    obtain ⟨rfl, rfl⟩ := pure_ok ec2
    obtain ⟨ρ2, A5, eT0, ea1⟩ := bind_ok ea
    obtain ⟨eT, eA5⟩ := ofO_ok eT0
    subst eA5
    obtain ⟨cB, A6, eB, ea2⟩ := bind_ok ea1
    clear eT0 ea ea1 ec ec1 ec2
    refine ⟨go, fun H' => ∃ m A accD rest, Ac W z D m1 H1 ow ρ' (wipe σ (own.map (·.2))) m A H' accD ∧
      compM (ds.drop (i + 1)) (compF t fB (inF vs1 t1 fi1 fB1 (fun r => (fe r).bind fun d => M.pure [d])) ρ') A = .ok rest A2 ∧ accD ++ rest = l, fun H' hp => ⟨ds.length - (i + 1), by omega, rfl, hlt, hp⟩, fun x H' y => ?_⟩
    obtain ⟨ld, ri⟩ := yl x H' y
    have ac' := ac.ld ld
    refine ⟨z.add D, m, ow, ρ', A5, ds[i], ρ2, ac'.S, ri, eT, fun σ2 dif S2 => ⟨dif.wipe hsub |>.trans ?_, ?_⟩⟩
    · exact (Dif.wipe (l := own.map (·.2)) (σ := σ) (σ' := wipe σ (own.map (·.2))) ⟨wipe_length _ _, fun j hj => wipe_out hj⟩ fun i h => h)
    · refine ⟨z.add D, tg_ok S2 eB fun m6 H6 c6 s6 S6 e6 => ?_⟩
      have e6 : cB = c6 := e6
      subst e6
      have ac6 : Ac W z D m1 H1 ow ρ2 σ2 m6 A6 H6 accD := ac'.sm' s6 S6
      cases cB with
      | false =>
        simp only [Bool.false_eq_true, if_false] at ea2 ⊢
        obtain ⟨rfl, rfl⟩ := pure_ok ea2
        exact ⟨m6, A3, accD, r2, Ac.back ac'.S hz0 hDo s6.D ac6, er, by simpa using el2⟩
      | true =>
        simp only [if_true] at ea2 ⊢
        obtain ⟨ys, A7, ei, ea3⟩ := bind_ok ea2
        obtain ⟨ρ3, A8, eS0, ea4⟩ := bind_ok ea3
        obtain ⟨eS, eA8⟩ := ofO_ok eS0
        subst eA8
        clear eS0 ea2 ea3
        refine ⟨z.add D, tg_ok S6 ei fun m7 H7 J1 s7 S7 sq1 => ?_⟩
        have ac7 : Ac W z D m1 H1 ow ρ2 σ2 m7 A8 H7 accD := ac6.sm' s7 S7
        have ac7' : Ac W z D m1 H1 ow ρ3 (wipe σ2 vs1) m7 A8 H7 accD := ⟨S7.wipe eS, ac7.sm, ac7.nm, ac7.acc⟩
        refine ⟨fun j k H => k = ys.length - j ∧ j ≤ ys.length ∧ ∃ m A accD rest1, Ac W z D m1 H1 ow ρ3 (wipe σ2 vs1) m A H accD ∧ SmD D m7 H7 m H ∧
          compM (ys.drop j) (compF t1 fB1 (fun r => (fe r).bind fun d => M.pure [d]) ρ3) A = .ok rest1 A3 ∧ accD ++ (rest1 ++ r2) = l, ⟨ys.length, by simp, Nat.zero_le _, m7, A8, accD, a, ac7', (Sm.refl _ _).D, ea4, el2⟩, ?_⟩
        rintro j k H9 ⟨rfl, hj, m9, A9, accD9, rest9, ac9, sm9, ec9, el9⟩
        have sqj := sq1 (muOf (z.add D).mu m9 ow) m9 H9 (sm9.le (.inr rfl)) ac9.S.ok sm9.pre fun e => by cases e
        by_cases hlj : j < ys.length
        · right
          have edj : ys[j]? = some ys[j] := List.getElem?_eq_getElem hlj
          obtain ⟨goj, ylj⟩ := sqj.go j ys[j] edj
          have edrj : ys.drop j = ys[j] :: ys.drop (j + 1) := (List.drop_eq_getElem_cons hlj)
          rw [edrj] at ec9
          obtain ⟨a9, A10, ea9, ec10⟩ := bind_ok ec9
          obtain ⟨r10, A11, er10, ec11⟩ := bind_ok ec10
          obtain ⟨rfl, rfl⟩ := pure_ok ec11
          obtain ⟨ρ4, A12, eT9, ea10⟩ := bind_ok ea9
          obtain ⟨eT1, eA12⟩ := ofO_ok eT9
          subst eA12
          obtain ⟨cB1, A13, eB1, ea11⟩ := bind_ok ea10
          clear eT9 ea9 ea10 ec9 ec10 ec11
          refine ⟨goj, fun H' => ∃ m A accD rest1, Ac W z D m1 H1 ow ρ3 (wipe σ2 vs1) m A H' accD ∧ SmD D m7 H7 m H' ∧
            compM (ys.drop (j + 1)) (compF t1 fB1 (fun r => (fe r).bind fun d => M.pure [d]) ρ3) A = .ok rest1 A3 ∧ accD ++ (rest1 ++ r2) = l, fun H' hp => ⟨ys.length - (j + 1), by omega, rfl, hlj, hp⟩, fun x1 H10 y1 => ?_⟩
          obtain ⟨ld1, ri1⟩ := ylj x1 H10 y1
          have ac10 := ac9.ld ld1
          refine ⟨z.add D, m9, ow, ρ3, A12, ys[j], ρ4, ac10.S, ri1, eT1, fun σ4 dif1 S4 => ⟨dif1.wipe hsub1 |>.trans ?_, ?_⟩⟩
          · exact (Dif.wipe (l := vs1) (σ := σ2) (σ' := wipe σ2 vs1) ⟨wipe_length _ _, fun j hj => wipe_out hj⟩ fun i h => h)
          · refine ⟨z.add D, tg_ok S4 eB1 fun m14 H14 c14 s14 S14 e14 => ?_⟩
            have e14 : cB1 = c14 := e14
            subst e14
            have ac14 : Ac W z D m1 H1 ow ρ4 σ4 m14 A13 H14 accD9 := ac10.sm' s14 S14
            cases cB1 with
            | false =>
              simp only [Bool.false_eq_true, if_false] at ea11 ⊢
              obtain ⟨rfl, rfl⟩ := pure_ok ea11
              exact ⟨m14, A10, accD9, r10, Ac.back ac10.S hz0 hDo s14.D ac14, (sm9.trans ld1.sm.D).trans s14.D, er10, by simpa using el9⟩
            | true =>
              simp only [if_true] at ea11 ⊢
              obtain ⟨d, A15, ed2, ea12⟩ := bind_ok ea11
              obtain ⟨rfl, rfl⟩ := pure_ok ea12
              refine ⟨z.add D, tg_ok S14 ed2 fun m16 H16 v16 s16 S16 r16 => ?_⟩
              have ac16 : Ac W z D m1 H1 ow ρ4 σ4 m16 A10 H16 accD9 := ac14.sm' s16 S16
              obtain ⟨acc, hacc, hrep⟩ := id ac16.acc
              have hlen : acc.length < sizeLine := by
                have e1 := congrArg List.length el9
                have e2 := hrep.length
                simp only [List.length_append, List.length_cons, List.length_nil] at e1
                omega
              refine ⟨acc, hacc, hlen, m16, A10, accD9 ++ [d], r10, Ac.back ac10.S hz0 hDo ((s14.trans s16).D.trans SmD.upd) (ac16.app hz0 hDo hD hacc r16), ((sm9.trans ld1.sm.D).trans (s14.trans s16).D).trans SmD.upd, er10, by simpa using el9⟩
        · left
          have ej : j = ys.length := by omega
          subst ej
          refine ⟨sqj.stop, ?_⟩
          rw [List.drop_length] at ec9
          obtain ⟨rfl, rfl⟩ := pure_ok ec9
          exact ⟨m9, A3, accD9, r2, Ac.back ac'.S hz0 hDo ((s6.trans s7).D.trans sm9) ac9, er, by simpa using el9⟩
  · left
    have ei : i = ds.length := by omega
    subst ei
    refine ⟨sq.stop, ?_⟩
    rw [List.drop_length] at ec
    obtain ⟨rfl, rfl⟩ := pure_ok ec
    rw [List.append_nil] at el2
    subst el2
    obtain ⟨acc, ha, ra⟩ := ac.acc
    exact q4.2 m H D ac.sm hD (S1.stepN hD ac.sm ac.S) ac.nm ⟨acc, ha, ra⟩
theorem ge_lc2 (hc : X.calm = true) (hN : X.N.Nodup) (hi : GI X W z Wx b wk tg iter fi) (ok : BlkOk X.N X.env.scope scope own) (hv : ∀ i ∈ vs1, i ∈ own.map (·.2)) (h1 : LcOk X W scope tg wk t ifs fB) (hi1 : ∀ (z : En) (s : Shared) (H : Hp) (C : Addr) (cl : List (Str × Addr)) (fp : List Addr), GI (X.blk s H scope (compEnvC scope cl C X.env) fp) W z F0 false wk1 tg1 iter1 fi1) (h2 : LcOk X W scope tg1 wk1 t1 ifs1 fB1) (he : BlE X W scope elt fe)
    (hsub : ∀ i ∈ ixT t, i ∈ own.map (·.2)) (hsub1 : ∀ i ∈ ixT t1, i ∈ vs1) (hs : ∀ x, foldedSetIterable iter X.env x = pure x) (hs1 : ∀ env x, foldedSetIterable iter1 env x = pure x) :
    GE X W z Wx bb (.ListComp elt [⟨tg, iter, ifs, 0⟩, ⟨tg1, iter1, ifs1, 0⟩] scope pos) (evLc (own.map (·.2)) t fi fB (inF vs1 t1 fi1 fB1 (fun r => (fe r).bind fun d => M.pure [d]))) :=
  pe_weak (pe_lc2 hc hN hi ok hv (fun s H C cl fp => pg_ex fun z => h1.hg z s H C cl fp) (fun s H C cl fp => pts_ex fun z => h1.ht z s H C cl fp) (fun s H C cl fp => pi_ex fun z => hi1 z s H C cl fp)
    (fun s H C cl fp => pg_ex fun z => h2.hg z s H C cl fp) (fun s H C cl fp => pts_ex fun z => h2.ht z s H C cl fp) (fun s H C cl fp => pe_ex fun z => he z s H C cl fp) hs hs1) fun σ H Q q => lc2_n hsub hsub1 (tev_n (fun ρ A d A' h => evLc_lst h) q)
end
end Ev
end
section
set_option maxHeartbeats 2000000
namespace Ev
open PySem PySem.Spec PyProof.Rows L2
/-! ### {k: v for ..}: a new dict by raw entries -/
/-- k: v goes to the dict at D -/
def PutO (K : PySem.W.Frag) (w : World) (D : Addr) (y z : V) (H : Hp) (Nx : Hp → Prop) : Prop := ∃ (W : Wd) (mu : Addr → Prop) (m : List Addr) (kvs : List (Ev.D × Ev.D)) (k d : Ev.D), W.K = K ∧ W.w = w ∧ DRd W mu m H D kvs ∧ okK k kvs = true ∧ kvs.length < sizeLine ∧ Rep W mu m H k y ∧ Rep W mu m H d z ∧
  ∀ es' : Array DictEntry × Nat, RepE W mu m H (putK k d kvs) es'.1.toList → Nx (upd H D (DictO D es'))
section
variable {X : Cx}
theorem dd_put {pins : List (Addr × Obj)} {σ : L2.St} {H : Hp} {s : Shared} {D : Addr} {y z : V} {u v : Value} {Nx : Hp → Prop} {E : Value → Shared → Prop} {Q : Unit → Shared → Prop} (hu : X.A.units + 66 < cLine) (I : Inv X pins σ H s) (p : PutO X.K X.w D y z H Nx) (ry : RelV y u) (rz : RelV z v)
    (h : ∀ H' s', Inv X pins σ H' s' → Nx H' → Q () s') : wpAny (model X.prog X.w) X.A (dictSet D u v) Q E s := by
  obtain ⟨W, mu, m, kvs, k, d, eK, ew, dr, ok, hz, rk, rd, n⟩ := p
  exact dd_dictSet hu I eK ew dr ok hz rk ry rz rd fun es' s' I' r' => h _ _ I' (n es' r')
def tDcO (X : Cx) (wi : TI) (g : L2.TG) (tt : TT) (tk tv : TE) (vs : List Nat) : TE := fun σ H Q => wi σ H fun J H1 => ∀ D, H1 D = none → ∃ W : Nat → Nat → Hp → Prop, (∃ m, W 0 m (upd H1 D (DictO D (#[], 0)))) ∧ ∀ i m H, W i m H →
  (J.stop i H ∧ Q (.ref D) H) ∨ (J.go i H ∧ ∃ Nx : Hp → Prop, (∀ H', Nx H' → ∃ m', m' < m ∧ W (i + 1) m' H') ∧ ∀ x H', J.yld i H x H' → g x (wipe σ vs) H' fun σ2 H2 => wipe σ2 vs = wipe σ vs ∧ tt σ2 H2 fun b H3 =>
    if b = true then tk σ2 H3 fun y H4 => tv σ2 H4 fun z H5 => PutO X.K X.w D y z H5 Nx else Nx H3)
theorem dc_coreO {pins : List (Addr × Obj)} {s : Shared} {σ : L2.St} {H : Hp} {Q : VK} {kx vx tg iter : Expr} {ifs : List Expr} {scope : Scope} {own : List (Str × Nat)} {pos pos' : Pos} {wi : TI} {g : L2.TG} {tt : TT} {tk tv : TE} {use : Option (Value → Sem Unit)} {Qf : Value → Shared → Prop}
    (hu : X.A.units + 66 < cLine) (hc : X.calm = true) (hN : X.N.Nodup) (I : Inv X pins σ H s) (hi : PI X tg iter wi) (ok : BlkOk X.N X.env.scope scope own)
    (hg : ∀ (s : Shared) (H : Hp) (C : Addr) (cl : List (Str × Addr)) (fp : List Addr), PG (X.blk s H scope (compEnvC scope cl C X.env) fp) tg g) (ht : ∀ (s : Shared) (H : Hp) (C : Addr) (cl : List (Str × Addr)) (fp : List Addr), PTs (X.blk s H scope (compEnvC scope cl C X.env) fp) ifs tt)
    (hk : ∀ (s : Shared) (H : Hp) (C : Addr) (cl : List (Str × Addr)) (fp : List Addr), PE (X.blk s H scope (compEnvC scope cl C X.env) fp) kx tk)
    (he : ∀ (s : Shared) (H : Hp) (C : Addr) (cl : List (Str × Addr)) (fp : List Addr), PE (X.blk s H scope (compEnvC scope cl C X.env) fp) vx tv) (hs : ∀ x, foldedSetIterable iter X.env x = pure x)
    (h : tDcO X wi g tt tk tv (own.map (·.2)) σ H Q)
    (hRR : ∀ D C s' m H', Inv X pins σ H' s' → Q (.ref D) H' → s'.heap.Ns C m → FpOk X pins H' C → compPost (model X.prog X.w) X.A X.xe use Qf (.ref D) C (.ok .next) s') :
    wpAny (model X.prog X.w) X.A (comprehension (.DictComp kx vx [⟨tg, iter, ifs, 0⟩] scope pos) scope X.env pos' newDict false (eval iter X.env) use) Qf X.xe s := by
  have hfree : ∀ y ∈ scope.names, y.2 = .free → ∃ c, X.env.cells.lookup y.1 = some c := fun y hy e => by
    rcases ok.free y hy e with k | k
    · exact I.ok.has _ (.inl k)
    · exact I.ok.has _ (.inr k)
  refine wpAny_comprehension_free (use := use) rfl hs (closure_ok hfree) ok.kind (fun y hy e => by rw [ok.uniq y hy, e])
    (thn (hi.run pins s σ H _ I h) fun xv s1 hx => thn hx fun itv s2 h2 => ?_)
  obtain ⟨it, fp, tn, J, H2, e, I2, T, st2, f2, q⟩ := h2
  subst e
  refine wpAny_newObj_type (newEnv_comp ?_)
  generalize hD : s2.heap.objs.size = D
  have hDn : H2 D = none := I2.hok.fresh (Nat.le_of_eq hD)
  obtain ⟨W, ⟨m0, w0⟩, turn⟩ := q D hDn
  -- the new list
  generalize hs3 : ({ s2 with heap := s2.heap.push { cls := .type "dict", data := .dict #[] } } : Shared) = s3
  have I3 : Inv X pins σ (upd H2 D (DictO D (#[], 0))) s3 := by
    rw [← hs3]
    refine I2.laid (t' := s2.toks) (fun b o e => Heap.get?_push_of_some _ e) (Nat.le_of_eq hD) ?_
    rw [← hD]
    exact dictO_new s2.heap I2.big
  have h3 : s3.heap = s2.heap.push { cls := .type "dict", data := .dict #[] } := by rw [← hs3]
  have sz : ∀ b ∈ fp, b < s2.heap.objs.size := fun b hb => by
    obtain ⟨o, e, _⟩ := T.obj _ _ st2 b hb
    exact Heap.lt_size e
  have f3 : ∀ b ∈ fp, FpOk X pins (upd H2 D (DictO D (#[], 0))) b ∧ b < s3.heap.objs.size := fun b hb => by
    have hlt := sz b hb
    refine ⟨⟨?_, (f2 b hb).2⟩, by rw [h3, Heap.size_push]; exact Nat.lt_succ_of_lt hlt⟩
    rw [upd_ne (by rw [← hD]; exact Nat.ne_of_lt hlt)]
    exact (f2 b hb).1
  have st3 : tn 0 s3.heap := T.keep _ _ _ st2 fun b _ o e => by rw [h3]; exact Heap.get?_push_of_some _ e
  have I4 := block_start I3 ok hN f3
  have pg := hg s3 (upd H2 D (DictO D (#[], 0))) s3.heap.objs.size (cellsFrom (s3.heap.objs.size + 1) scope.names (cloFrom X.env.cells scope.names [])) fp
  have pt := ht s3 (upd H2 D (DictO D (#[], 0))) s3.heap.objs.size (cellsFrom (s3.heap.objs.size + 1) scope.names (cloFrom X.env.cells scope.names [])) fp
  have pk := hk s3 (upd H2 D (DictO D (#[], 0))) s3.heap.objs.size (cellsFrom (s3.heap.objs.size + 1) scope.names (cloFrom X.env.cells scope.names [])) fp
  have pe := he s3 (upd H2 D (DictO D (#[], 0))) s3.heap.objs.size (cellsFrom (s3.heap.objs.size + 1) scope.names (cloFrom X.env.cells scope.names [])) fp
  show codeAny _ _ (.compStart (.DictComp kx vx [⟨tg, iter, ifs, 0⟩] scope pos) 0 (.ref it) (.ref D) (compEnvC scope (cellsFrom (s3.heap.objs.size + 1) scope.names (cloFrom X.env.cells scope.names [])) s3.heap.objs.size X.env)) (compPost (model X.prog X.w) X.A X.xe use Qf (.ref D) s3.heap.objs.size) { s3 with heap := pushCells (s3.heap.push { cls := .type "dict", data := .dict #[] }) scope.names }
  have nfp : ∀ b ∈ fp, (upd H2 D (DictO D (#[], 0))) b = none := fun b hb => (f3 b hb).1.1
  generalize hce : compEnvC scope (cellsFrom (s3.heap.objs.size + 1) scope.names (cloFrom X.env.cells scope.names [])) s3.heap.objs.size X.env = ce at I4 pg pt pk pe ⊢
  have cL : ce.locals = s3.heap.objs.size := by subst hce; rfl
  generalize hH3 : upd H2 D (DictO D (#[], 0)) = H3 at I3 I4 pg pt pk pe w0 nfp f3
  generalize hs4 : ({ s3 with heap := pushCells (s3.heap.push { cls := .type "dict", data := .dict #[] }) scope.names } : Shared) = s4 at I4 ⊢
  have st4 : tn 0 s4.heap := T.keep _ _ _ st3 fun b _ o e => by rw [← hs4]; exact pushCells_keeps _ _ _ _ (Heap.get?_push_of_some _ e)
  have stat : ∀ {σ' : L2.St} {H' : Hp} {s' : Shared}, Inv (X.blk s3 H3 scope ce fp) [] σ' H' s' → (∀ b ∈ fp, H' b = none) → ∀ b ∈ fp, FpOk (X.blk s3 H3 scope ce fp) [] H' b := fun {σ' H' s'} I' hn b hb =>
    ⟨hn b hb, (I'.ok.exf b hb).1, I'.ok.exfs b hb, .inl hb, fun x c e => (I'.ok.exf b hb).2 x c e, fun p hp => absurd (show p ∈ ([] : List (Addr × Obj)) ++ [] from hp) (by simp)⟩
  have loop : codeAny (model X.prog X.w) X.A (.compLoop (.DictComp kx vx [⟨tg, iter, ifs, 0⟩] scope pos) 0 (.ref it) (.ref D) ce) (compPost (model X.prog X.w) X.A X.xe use Qf (.ref D) s3.heap.objs.size) s4 := by
    refine compLoop_anyD (fun n s' => ∃ i H', Inv (X.blk s3 H3 scope ce fp) [] (wipe σ (own.map (·.2))) H' s' ∧ tn i s'.heap ∧ (∀ b ∈ fp, H' b = none) ∧ W i n H') ?_ m0 ⟨0, H3, I4, st4, nfp, w0⟩
    rintro n s5 ⟨i, H5, I5, st5, n5, w5⟩
    rcases turn i n H5 w5 with ⟨stop, qq⟩ | ⟨go, Nx, hNx, step⟩
    · have td := T.done (X.blk s3 H3 scope ce fp) rfl rfl rfl hc i [] s5 _ H5 (fun _ _ => False) I5 (stat I5 n5) st5 stop
      refine thnF td fun r s6 ⟨hr, I6⟩ => ?_
      subst hr
      -- back in the def's context
      have I7 : Inv X pins σ H5 s6 := I3.call' (ch := fp) I6.os I6.base I6.hok I6.bare fun b hb => ⟨(f3 b hb).1.2.2.2.1, (f3 b hb).1.2.1, (f3 b hb).1.2.2.2.2.1, (f3 b hb).1.2.2.2.2.2⟩
      have nC : H5 s3.heap.objs.size = none := by
        have z : H5 ce.locals = none := I6.free
        rw [cL] at z
        exact z
      obtain ⟨m, hn, _⟩ := I6.loc
      have hn : s6.heap.Ns ce.locals m := hn
      rw [cL] at hn
      exact hRR D s3.heap.objs.size s6 m H5 I7 qq hn (I3.fpOk (Nat.le_refl _) nC)
    · have ti := T.item (X.blk s3 H3 scope ce fp) rfl rfl rfl hc i [] s5 _ H5 (fun _ _ => False) I5 (stat I5 n5) st5 go
      refine thnF ti fun r s6 ⟨u, hr, h6⟩ => ?_
      subst hr
      refine thnF h6 fun _ s7 ⟨x, H7, I7, r7, y7, st7, n7⟩ => ?_
      have I7' := I7.pinned (stat I7 n7) (T.obj _ _ st7)
      refine thnF (pg.run _ s7 _ H7 x u _ I7' r7 (step x H7 y7)) fun _ s8 ⟨σ8, H8, I8, hw8, q8⟩ => ?_
      refine thnF (pt.run _ s8 σ8 H8 _ I8 q8) fun b s9 ⟨H9, I9, q9⟩ => ?_
      -- the turn's end
      have fin : ∀ {s' : Shared} {H' : Hp}, Inv (X.blk s3 H3 scope ce fp) ([] ++ pinsAt fp s7.heap) σ8 H' s' → Nx H' → ∃ m, m < n ∧ ∃ i H', Inv (X.blk s3 H3 scope ce fp) [] (wipe σ (own.map (·.2))) H' s' ∧ tn i s'.heap ∧ (∀ b ∈ fp, H' b = none) ∧ W i m H' := fun {s' H'} I' nx => by
        obtain ⟨m', hm, w'⟩ := hNx H' nx
        have pin' : ∀ b ∈ fp, ∀ o, s7.heap.get? b = some o → s'.heap.get? b = some o ∧ H' b = none := fun b hb o e =>
          let z := I'.pin (b, o) (List.mem_append_right _ (List.mem_append_right _ (mem_pinsAt hb e)))
          ⟨z.1, z.2.1⟩
        have hl : (wipe σ (own.map (·.2))).length = σ8.length := by rw [← hw8, wipe_length]
        refine ⟨m', hm, i + 1, H', (I'.unpinned (pins := [])).weak hl (fun j v e => ?_), T.keep _ _ _ st7 fun b hb o e => (pin' b hb o e).1, fun b hb => ?_, w'⟩
        · rw [← hw8] at e
          exact (wipe_some e).1
        · obtain ⟨o, e, _⟩ := T.obj _ _ st7 b hb
          exact (pin' b hb o e).2
      cases b with
      | false =>
        simp only [Bool.false_eq_true, if_false] at q9 ⊢
        exact fin I9 q9
      | true =>
        simp only [if_true] at q9 ⊢
        refine thnF (pk.run _ s9 σ8 H9 _ I9 q9) fun z s10 ⟨yk, H10, I10, r10, q10⟩ => ?_
        refine thnF (pe.run _ s10 σ8 H10 _ I10 q10) fun z2 s11 ⟨yv, H11, I11, r11, nx⟩ => ?_
        exact dd_put (X := X.blk s3 H3 scope ce fp) hu I11 nx r10 r11 fun H12 s12 I12 n12 => fin I12 n12
  exact codeAny_compStart_dict loop (T.self X.A 0 _ _ _ st4 loop)
/-- as a value -/
theorem pe_dcO {kx vx tg iter : Expr} {ifs : List Expr} {scope : Scope} {own : List (Str × Nat)} {pos : Pos} {wi : TI} {g : L2.TG} {tt : TT} {tk tv : TE} (hu : X.A.units + 66 < cLine) (hc : X.calm = true) (hN : X.N.Nodup) (hi : PI X tg iter wi) (ok : BlkOk X.N X.env.scope scope own)
    (hg : ∀ (s : Shared) (H : Hp) (C : Addr) (cl : List (Str × Addr)) (fp : List Addr), PG (X.blk s H scope (compEnvC scope cl C X.env) fp) tg g) (ht : ∀ (s : Shared) (H : Hp) (C : Addr) (cl : List (Str × Addr)) (fp : List Addr), PTs (X.blk s H scope (compEnvC scope cl C X.env) fp) ifs tt)
    (hk : ∀ (s : Shared) (H : Hp) (C : Addr) (cl : List (Str × Addr)) (fp : List Addr), PE (X.blk s H scope (compEnvC scope cl C X.env) fp) kx tk)
    (he : ∀ (s : Shared) (H : Hp) (C : Addr) (cl : List (Str × Addr)) (fp : List Addr), PE (X.blk s H scope (compEnvC scope cl C X.env) fp) vx tv) (hs : ∀ x, foldedSetIterable iter X.env x = pure x := by intro _; rfl) :
    PE X (.DictComp kx vx [⟨tg, iter, ifs, 0⟩] scope pos) (tDcO X wi g tt tk tv (own.map (·.2))) := by
  refine ⟨fun pins s σ H Q I h => ?_⟩
  rw [arm_eval_DictComp]
  refine dc_coreO hu hc hN I hi ok hg ht hk he hs h fun D C s' m H' I' q hn f => ⟨m, hn, fun h'' sb => ?_⟩
  obtain ⟨f0, f1, f2, f3, f4, f5⟩ := f
  exact ⟨.ref D, H', I'.turned (t' := s'.toks) (fun b o hb e => (sb.2 b hb).trans e) f0 f1 f3 f4 f5, rfl, q⟩
/-- name = {..} on one line, the name a local -/
theorem ps_setDcO {i : Nat} {y : Str} {py : Pos} {kx vx tg iter : Expr} {ifs : List Expr} {scope : Scope} {own : List (Str × Nat)} {pos spos : Pos} {wi : TI} {g : L2.TG} {tt : TT} {tk tv : TE} (hu : X.A.units + 66 < cLine) (hc : X.calm = true) (hN : X.N.Nodup) (hy : X.N[i]? = some y) (hyl : X.env.scope.names.lookup y = some .local)
    (hsw : swapsWith (.DictComp kx vx [⟨tg, iter, ifs, 0⟩] scope pos) (some (.Name y py)) spos.line X.env = pure true) (hi : PI X tg iter wi) (ok : BlkOk X.N X.env.scope scope own)
    (hg : ∀ (s : Shared) (H : Hp) (C : Addr) (cl : List (Str × Addr)) (fp : List Addr), PG (X.blk s H scope (compEnvC scope cl C X.env) fp) tg g) (ht : ∀ (s : Shared) (H : Hp) (C : Addr) (cl : List (Str × Addr)) (fp : List Addr), PTs (X.blk s H scope (compEnvC scope cl C X.env) fp) ifs tt)
    (hk : ∀ (s : Shared) (H : Hp) (C : Addr) (cl : List (Str × Addr)) (fp : List Addr), PE (X.blk s H scope (compEnvC scope cl C X.env) fp) kx tk)
    (he : ∀ (s : Shared) (H : Hp) (C : Addr) (cl : List (Str × Addr)) (fp : List Addr), PE (X.blk s H scope (compEnvC scope cl C X.env) fp) vx tv) (hs : ∀ x, foldedSetIterable iter X.env x = pure x) :
    PS X (.Assign [.Name y py] (.DictComp kx vx [⟨tg, iter, ifs, 0⟩] scope pos) spos) (tAsg (tDcO X wi g tt tk tv (own.map (·.2))) (gName i)) := by
  refine ⟨fun pins s σ H D I h => ?_⟩
  rw [exec_Assign_Name_used _ _ _ _ hsw]
  refine wpAny_bind (wpAny_standAt (wpAny_bind ?_))
  show wpAny _ X.A (do let _ ← comprehension (.DictComp kx vx [⟨tg, iter, ifs, 0⟩] scope pos) scope X.env (firstIterPos [⟨tg, iter, ifs, 0⟩] pos) newDict false (eval iter X.env) (some (assign (.Name y py) X.env))) _ _ s
  have h : tDcO X wi g tt tk tv (own.map (·.2)) σ H (fun x H1 => gName i x σ H1 D.nx) := h
  refine wpAny_bind (thn (dc_coreO (Qf := fun _ s' => SP X pins D .next s') hu hc hN I hi ok hg ht hk he hs h fun L C s' m H' I' q hn f => ?_) fun _ s' hq => wpAny_pure (wpAny_pure hq))
  show wpAny _ _ (assign (.Name y py) X.env (.ref L)) _ _ _
  refine wpAny_assign_Name (store_ok2 (v := V.ref L) I' hN hy (.inl hyl) rfl (fun s2 I2 ⟨a, sb, ha⟩ => ?_) (.inr hyl))
  obtain ⟨f0, f1, f2, f3, f4, f5⟩ := f
  have haC : C ≠ a := by
    rcases ha with z | z
    · rw [z]; exact f1
    · exact fun e => f4 y a z e.symm
  refine ⟨m, hn.sameBut sb haC, fun h3 sb3 => ?_⟩
  exact ⟨_, H', I2.turned (t' := s2.toks) (fun b o hb e => (sb3.2 b hb).trans e) f0 f1 f3 f4 f5, q⟩
end
/-! ### what it comes to -/
def dctL : List (Ev.D × Ev.D) → List Ev.D → (Ev.D → M (Option (Ev.D × Ev.D))) → M (List (Ev.D × Ev.D))
  | acc, [], _ => M.pure acc
  | acc, x :: xs, f => (f x).bind fun r => match r with
    | none => dctL acc xs f
    | some kd => (grd (okK kd.1 acc && decide (acc.length < sizeLine))).bind fun _ => dctL (putK kd.1 kd.2 acc) xs f
def dcF (t : IT) (fB : Env → M Bool) (fk fv : Env → M Ev.D) (ρ : Env) (x : Ev.D) : M (Option (Ev.D × Ev.D)) := (ofO (evTp t x ρ)).bind fun r => (fB r).bind fun c => if c then (fk r).bind fun k => (fv r).bind fun d => M.pure (some (k, d)) else M.pure none
def evDc (own : List Nat) (t : IT) (fi : Env → M (List Ev.D)) (fB : Env → M Bool) (fk fv : Env → M Ev.D) : Env → M Ev.D := fun ρ => (fi ρ).bind fun xs => (ofO (slot0 ρ own)).bind fun ρ' => (calm (dctL [] xs (dcF t fB fk fv ρ'))).bind fun l => M.pure (.dct l)
structure AcD (W : Wd) (z : En) (D : Addr) (m1 : List Addr) (H1 : Hp) (ow : Ow) (ρ : Env) (σ : L2.St) (m : List Addr) (A : AH) (H : Hp) (kvs : List (Ev.D × Ev.D)) : Prop where
  S : SRel W (z.add D) m ow ρ A σ H
  sm : Sm m1 H1 m H
  nm : D ∉ m
  kv : KvOk kvs
  acc : ∃ es, H D = some (DictO D es) ∧ RepE W (muOf (z.add D).mu m ow) m H kvs es.1.toList
section
variable {W : Wd} {z : En} {D : Addr} {m1 m m' : List Addr} {H1 H H' : Hp} {ow : Ow} {ρ ρ' : Env} {σ σ' : L2.St} {A A' : AH} {kvs : List (Ev.D × Ev.D)}
theorem AcD.sm' (a : AcD W z D m1 H1 ow ρ σ m A H kvs) (s : Sm m H m' H') (S' : SRel W (z.add D) m' ow ρ' A' σ' H') : AcD W z D m1 H1 ow ρ' σ' m' A' H' kvs := by
  obtain ⟨es, h1, h2⟩ := a.acc
  exact ⟨S', a.sm.trans s, a.S.nD s a.nm h1, a.kv, es, s.keep D _ h1 a.nm, h2.mono s.le a.S.ok s.pre⟩
theorem AcD.ld (a : AcD W z D m1 H1 ow ρ σ m A H kvs) (l : Ld H H') : AcD W z D m1 H1 ow ρ σ m A H' kvs := a.sm' l.sm (a.S.ld l)
theorem AcD.back {σ0 : L2.St} {ρ0 : Env} {m0 : List Addr} {A0 : AH} {H0 : Hp} (S0 : SRel W (z.add D) m0 ow ρ0 A0 σ0 H0) (hz0 : z.H D = none) (ho : ∀ i, ow i ≠ some D) (s : SmD D m0 H0 m H) (a : AcD W z D m1 H1 ow ρ σ m A H kvs) : AcD W z D m1 H1 ow ρ0 σ0 m A H kvs := by
  obtain ⟨es, h1, h2⟩ := a.acc
  exact ⟨S0.stepD s (.inr rfl) hz0 h1 (fun _ z => by cases z) (fun _ _ z => by cases z) ho a.S.hp, a.sm, a.nm, a.kv, es, h1, h2⟩
theorem AcD.put (a : AcD W z D m1 H1 ow ρ σ m A H kvs) (hz0 : z.H D = none) (ho : ∀ i, ow i ≠ some D) (h1n : H1 D = none) {k d : Ev.D} (ok : okK k kvs = true) (hz : kvs.length < sizeLine) {es' : Array DictEntry × Nat} (r : RepE W (muOf (z.add D).mu m ow) m H (putK k d kvs) es'.1.toList) :
    AcD W z D m1 H1 ow ρ σ m A (upd H D (DictO D es')) (putK k d kvs) := by
  obtain ⟨es, e, h2⟩ := a.acc
  have le9 : Le (muOf (z.add D).mu m ow) H (muOf (z.add D).mu m ow) (upd H D (DictO D es')) := (SmD.upd (m := m)).le (.inr rfl)
  exact ⟨a.S.updD (.inr rfl) e hz0 a.nm ho (fun _ z => by cases z) (fun _ _ z => by cases z), (a.sm.D.trans SmD.upd).sm h1n, a.nm, a.kv.put ok hz, es', upd_same, r.mono le9 a.S.ok ⟨[], by simp⟩⟩
theorem AcD.init {own : List Nat} (S1 : SRel W z m1 ow ρ A σ H1) (eρ : slot0 ρ own = some ρ') (hD : H1 D = none) : AcD W z D m1 H1 ow ρ' (wipe σ own) m1 A (upd H1 D (DictO D (#[], 0))) [] :=
  ⟨(S1.wipe eρ).addD hD (fun _ z => by cases z) (fun _ _ z => by cases z), Sm.laid hD, (fun h => by
    obtain ⟨o, e⟩ := S1.memH h
    rw [hD] at e
    cases e), KvOk.nil, _, upd_same, rfl⟩
end
section
variable {X : Cx} {W : Wd} {z : En} {Wx : WX} {b wk : Bool} {own : List (Str × Nat)} {fi : Env → M (List Ev.D)} {fB : Env → M Bool} {fk fv : Env → M Ev.D} {t : IT}
theorem dc_n (c : CtxOk X W) {σ : L2.St} {H : Hp} {Q : VK} (hsub : ∀ i ∈ ixT t, i ∈ own.map (·.2)) (q : TN W z Wx (evDc (own.map (·.2)) t fi fB fk fv) σ H Q) :
    tDcO X (TG W z Wx (SqR b wk W) fi) (XG W wk t) (XB W fB) (XE W fk) (XE W fv) (own.map (·.2)) σ H Q := by
  obtain ⟨m, ow, ρ, A, S, q⟩ := q
  refine tn_then (fa := fi) S q fun m1 H1 A1 ds J s1 S1 r1 q1 => ?_
  intro D hD
  obtain ⟨ρ', eρ, q2⟩ := ofOn q1
  obtain ⟨l, A2, el, q4⟩ := calm_n q2
  have hDo : ∀ i, ow i ≠ some D := fun i h => by
    obtain ⟨o, e⟩ := S1.ownH h
    rw [hD] at e
    cases e
  have hz0 : z.H D = none := S1.zH hD
  generalize hF : dcF t fB fk fv ρ' = F at el
  refine ⟨fun i n H => n = ds.length - i ∧ i ≤ ds.length ∧ ∃ m A kvs, AcD W z D m1 H1 ow ρ' (wipe σ (own.map (·.2))) m A H kvs ∧
    dctL kvs (ds.drop i) F A = .ok l A2, ⟨ds.length, by simp, Nat.zero_le _, m1, A1, [], AcD.init S1 eρ hD, el⟩, ?_⟩
  rintro i n H ⟨rfl, hi, m, A, kvs, ac, ec⟩
  have le1 : Le (muOf z.mu m1 ow) H1 (muOf (z.add D).mu m ow) H := ⟨fun a o e n => ac.sm.keep a o e fun q => n (.inr (.inl q)), fun a o e n q => by
    rcases q with (q | q) | q | q
    · exact n (.inl q)
    · rw [q, hD] at e; cases e
    · have := ac.sm.new a q fun y => n (.inr (.inl y))
      rw [e] at this
      cases this
    · exact n (.inr (.inr q))⟩
  have sq := r1 (muOf (z.add D).mu m ow) m H le1 ac.S.ok ac.sm.pre fun _ => fun a o e n => ac.sm.keep a o e n
  by_cases hlt : i < ds.length
  · right
    have ed : ds[i]? = some ds[i] := List.getElem?_eq_getElem hlt
    obtain ⟨go, yl⟩ := sq.go i ds[i] ed
    have edr : ds.drop i = ds[i] :: ds.drop (i + 1) := (List.drop_eq_getElem_cons hlt)
    rw [edr] at ec
    obtain ⟨r, A3, ea, ec1⟩ := bind_ok ec
    have ea' := ea
    rw [← hF] at ea'
    obtain ⟨ρ2, A5, eT0, ea1⟩ := bind_ok ea'
    obtain ⟨eT, eA5⟩ := ofO_ok eT0
    subst eA5
    obtain ⟨cB, A6, eB, ea2⟩ := bind_ok ea1
    clear eT0 ea ea1 ea' ec
    refine ⟨go, fun H' => ∃ m A kvs, AcD W z D m1 H1 ow ρ' (wipe σ (own.map (·.2))) m A H' kvs ∧
      dctL kvs (ds.drop (i + 1)) F A = .ok l A2, fun H' hp => ⟨ds.length - (i + 1), by omega, rfl, hlt, hp⟩, fun x H' y => ?_⟩
    obtain ⟨ld, ri⟩ := yl x H' y
    have ac' := ac.ld ld
    refine ⟨z.add D, m, ow, ρ', A5, ds[i], ρ2, ac'.S, ri, eT, fun σ2 dif S2 => ⟨dif.wipe hsub |>.trans ?_, ?_⟩⟩
    · exact (Dif.wipe (l := own.map (·.2)) (σ := σ) (σ' := wipe σ (own.map (·.2))) ⟨wipe_length _ _, fun j hj => wipe_out hj⟩ fun i h => h)
    · refine ⟨z.add D, tg_ok S2 eB fun m6 H6 c6 s6 S6 e6 => ?_⟩
      have e6 : cB = c6 := e6
      subst e6
      have ac6 : AcD W z D m1 H1 ow ρ2 σ2 m6 A6 H6 kvs := ac'.sm' s6 S6
      cases cB with
      | false =>
        simp only [Bool.false_eq_true, if_false] at ea2 ⊢
        obtain ⟨rfl, rfl⟩ := pure_ok ea2
        exact ⟨m6, A3, kvs, AcD.back ac'.S hz0 hDo s6.D ac6, ec1⟩
      | true =>
        simp only [if_true] at ea2 ⊢
        obtain ⟨k, A7, ek, ea3⟩ := bind_ok ea2
        obtain ⟨d, A8, ed2, ea4⟩ := bind_ok ea3
        obtain ⟨rfl, rfl⟩ := pure_ok ea4
        clear ea2 ea3 ea4
        obtain ⟨u, A9, eg, ec2⟩ := bind_ok ec1
        have hok : (okK k kvs && decide (kvs.length < sizeLine)) = true ∧ A9 = A3 := by
          unfold grd at eg
          split at eg
          · rename_i q
            exact ⟨q, (pure_ok eg).2⟩
          · cases eg
        obtain ⟨hok, rfl⟩ := hok
        obtain ⟨ok, hz⟩ := Bool.and_eq_true_iff.mp hok
        have hz := of_decide_eq_true hz
        refine ⟨z.add D, tg_ok S6 ek fun m7 H7 v7 s7 S7 r7 => ?_⟩
        have ac7 : AcD W z D m1 H1 ow ρ2 σ2 m7 A7 H7 kvs := ac6.sm' s7 S7
        refine ⟨z.add D, tg_ok S7 ed2 fun m8 H8 v8 s8 S8 r8 => ?_⟩
        have ac8 : AcD W z D m1 H1 ow ρ2 σ2 m8 _ H8 kvs := ac7.sm' s8 S8
        obtain ⟨es, hes, hre⟩ := ac8.acc
        exact ⟨W, muOf (z.add D).mu m8 ow, m8, kvs, k, d, c.1.symm, c.2.2.symm, ⟨es, hes, ac8.kv, hre⟩, ok, hz, Rep.mono s8.le S7.ok s8.pre r7, r8, fun es' r' =>
          ⟨m8, _, putK k d kvs, AcD.back ac'.S hz0 hDo (((s6.trans s7).trans s8).D.trans SmD.upd) (ac8.put hz0 hDo hD ok hz r'), ec2⟩⟩
  · left
    have ei : i = ds.length := by omega
    subst ei
    refine ⟨sq.stop, ?_⟩
    rw [List.drop_length] at ec
    obtain ⟨rfl, rfl⟩ := pure_ok ec
    obtain ⟨es, ha, ra⟩ := ac.acc
    exact q4.2 m H D ac.sm hD (S1.stepN hD ac.sm ac.S) ac.nm ⟨es, ha, ac.kv, ra⟩
theorem evDc_nw {own : List Nat} {ρ : Env} {A A' : AH} {d : Ev.D} (h : evDc own t fi fB fk fv ρ A = .ok d A') : isNw d = true := by
  obtain ⟨xs, A1, h1, h2⟩ := bind_ok h
  obtain ⟨ρ', A2, h3, h4⟩ := bind_ok h2
  obtain ⟨l, A3, h5, h6⟩ := bind_ok h4
  rw [← (pure_ok h6).1]
  rfl
end
end Ev
end
section
set_option maxHeartbeats 2000000
namespace Ev
open PySem PySem.Spec PyProof.Rows L2
def owSet (ow : Ow) (i : Nat) (o : Option Addr) : Ow := fun j => if j = i then o else ow j
section
variable {X : Cx} {W : Wd} {z : En} {Wx : WX} {m m' : List Addr} {ow : Ow} {ρ ρ' : Env} {A A' : AH} {σ : L2.St} {H H' : Hp} {i : Nat}
theorem muOf_none {p : Addr} (h : muOf z.mu m (owSet ow i none) p) : muOf z.mu m ow p := by
  rcases h with h | h | ⟨j, h⟩
  · exact .inl h
  · exact .inr (.inl h)
  · unfold owSet at h
    split at h
    · cases h
    · exact .inr (.inr ⟨j, h⟩)
theorem le_none : Le (muOf z.mu m ow) H (muOf z.mu m (owSet ow i none)) H := ⟨fun _ _ e _ => e, fun _ _ _ n q => n (muOf_none q)⟩
/-- a slot leaves its list, sl is what it then is -/
theorem SRel.unown (S : SRel W z m ow ρ A σ H) {sl : Sl} (hs : i < ρ.length → SlR W (muOf z.mu m (owSet ow i none)) m H none σ[i]? sl) : SRel W z m (owSet ow i none) (ρ.set i sl) A σ H where
  len := by simp [S.len]
  own0 := fun j p e => by
    unfold owSet at e
    split at e
    · cases e
    · exact S.own0 j p e
  ownm := fun j p e => by
    unfold owSet at e
    split at e
    · cases e
    · exact S.ownm j p e
  omu := fun j p e => by
    unfold owSet at e
    split at e
    · cases e
    · exact S.omu j p e
  inj := fun j k p e1 e2 => by
    unfold owSet at e1 e2
    split at e1
    · cases e1
    · split at e2
      · cases e2
      · exact S.inj j k p e1 e2
  out := fun j hj => by
    unfold owSet
    split
    · rfl
    · exact S.out j (by simpa using hj)
  sm := S.sm
  ok := fun p q => S.ok p (muOf_none q)
  slot := fun j sl' e => by
    by_cases q : i = j
    · subst q
      have hl : i < ρ.length := by
        have := (List.getElem?_eq_some_iff.mp e).1
        simpa using this
      rw [List.getElem?_set_self hl] at e
      cases e
      have : owSet ow i none i = none := by unfold owSet; simp
      rw [this]
      exact hs hl
    · rw [List.getElem?_set_ne q] at e
      have k := S.slot j sl' e
      have : owSet ow i none j = ow j := by unfold owSet; exact if_neg fun h => q h.symm
      rw [this]
      cases sl' with
      | no => exact k
      | clo => exact k
      | val d => obtain ⟨q1, v, q2, q3⟩ := k; exact ⟨q1, v, q2, q3.mono le_none S.ok ⟨[], by simp⟩⟩
      | own l' => obtain ⟨p, vs, q1, q2, q3, q4⟩ := k; exact ⟨p, vs, q1, q2, q3, q4.mono le_none S.ok ⟨[], by simp⟩⟩
      | ownD l' => obtain ⟨p, es, q1, q2, q3, k, q4⟩ := k; exact ⟨p, es, q1, q2, q3, k, q4.mono le_none S.ok ⟨[], by simp⟩⟩
  hp := S.hp.mono le_none S.ok fun _ _ => rfl
  cl := S.cl
/-- the slot is given up -/
def dropS (ρ : Env) (i : Nat) : Env := ρ.set i .no
theorem SRel.drop (S : SRel W z m ow ρ A σ H) : SRel W z m (owSet ow i none) (dropS ρ i) A σ H := S.unown fun _ => rfl
/-- the list is not to change any more -/
def frzS (ρ : Env) (i : Nat) : Option Env := match ρ[i]? with
  | some (.own l) => some (ρ.set i (.val (.lst l)))
  | some (.ownD l) => some (ρ.set i (.val (.dct l)))
  | _ => none
theorem SRel.frz (S : SRel W z m ow ρ A σ H) (h : frzS ρ i = some ρ') : SRel W z m (owSet ow i none) ρ' A σ H := by
  unfold frzS at h
  cases e : ρ[i]? with
  | none => rw [e] at h; cases h
  | some sl =>
    rw [e] at h
    have k := S.slot i sl e
    have nm : ∀ p, ow i = some p → ¬ muOf z.mu m (owSet ow i none) p := fun p hp q => by
      rcases q with q | q | ⟨j, q⟩
      · exact S.omu i p hp q
      · exact S.ownm i p hp q
      · unfold owSet at q
        split at q
        · cases q
        · rename_i ne
          exact ne (S.inj j i p q hp)
    cases sl with
    | own l =>
      cases h
      obtain ⟨p, vs, q1, q2, q3, q4⟩ := k
      exact S.unown fun _ => ⟨rfl, _, q2, p, vs, rfl, ⟨q3, nm p q1⟩, q4.mono le_none S.ok ⟨[], by simp⟩⟩
    | ownD l =>
      cases h
      obtain ⟨p, es, q1, q2, q3, k, q4⟩ := k
      exact S.unown fun _ => ⟨rfl, _, q2, p, es, rfl, q3, nm p q1, k, q4.mono le_none S.ok ⟨[], by simp⟩⟩
    | _ => cases h
theorem muOf_own {p q : Addr} (h0 : ow i = none) : muOf z.mu m (owSet ow i (some p)) q ↔ muOf (z.add p).mu m ow q := by
  constructor
  · rintro (h | h | ⟨j, h⟩)
    · exact .inl (.inl h)
    · exact .inr (.inl h)
    · unfold owSet at h
      split at h
      · cases h; exact .inl (.inr rfl)
      · exact .inr (.inr ⟨j, h⟩)
  · rintro ((h | h) | h | ⟨j, h⟩)
    · exact .inl h
    · exact .inr (.inr ⟨i, by unfold owSet; rw [if_pos rfl, h]⟩)
    · exact .inr (.inl h)
    · refine .inr (.inr ⟨j, ?_⟩)
      unfold owSet
      rw [if_neg]
      · exact h
      · rintro rfl
        rw [h0] at h
        cases h
/-- a new list is the slot's own -/
theorem SRel.own {p : Addr} {sl : Sl} (S : SRel W (z.add p) m ow ρ A σ H) (h0 : ow i = none) (hi : i < ρ.length) (hz0 : z.H p = none) (nm : p ∉ m) (no : ∀ j, ow j ≠ some p) (nz : ¬ z.mu p) (hs : SlR W (muOf z.mu m (owSet ow i (some p))) m H (some p) (some (some (.ref p))) sl) :
    SRel W z m (owSet ow i (some p)) (ρ.set i sl) A (σ.set i (some (.ref p))) H := by
  have em : muOf z.mu m (owSet ow i (some p)) = muOf (z.add p).mu m ow := funext fun q => propext (muOf_own h0)
  refine ⟨by simp [S.len], fun j q e => ?_, fun j q e => ?_, fun j q e => ?_, fun j k q e1 e2 => ?_, fun j hj => ?_, S.sm, by rw [em]; exact S.ok, fun j sl' e => ?_, by rw [em]; exact S.hp, S.cl.back⟩
  · unfold owSet at e
    split at e
    · cases e; exact hz0
    · exact S.own0 j q e
  · unfold owSet at e
    split at e
    · cases e; exact nm
    · exact S.ownm j q e
  · unfold owSet at e
    split at e
    · cases e; exact nz
    · exact fun y => S.omu j q e (.inl y)
  · unfold owSet at e1 e2
    split at e1
    · rename_i ej
      split at e2
      · rename_i ek; rw [ej, ek]
      · cases e1; exact absurd e2 (no k)
    · split at e2
      · cases e2; exact absurd e1 (no j)
      · exact S.inj j k q e1 e2
  · unfold owSet
    rw [if_neg (by simp at hj; omega)]
    exact S.out j (by simpa using hj)
  · by_cases q : i = j
    · subst q
      rw [List.getElem?_set_self hi] at e
      cases e
      rw [List.getElem?_set_self (by rw [S.len]; exact hi)]
      have : owSet ow i (some p) i = some p := by unfold owSet; simp
      rw [this]
      exact hs
    · rw [List.getElem?_set_ne q] at e
      rw [List.getElem?_set_ne q]
      have k := S.slot j sl' e
      have : owSet ow i (some p) j = ow j := by unfold owSet; exact if_neg fun h => q h.symm
      rw [this, em]
      exact k
/-- an own list, an own dict changes -/
theorem SRel.upOwn {p : Addr} {sl : Sl} {o : HO} (S : SRel W z m ow ρ A σ H) (h0 : ow i = some p) (n1 : ∀ xs, o ≠ .tup xs) (n2 : ∀ ob u, o ≠ .frz ob u) (hi : i < ρ.length) (hs : SlR W (muOf z.mu m ow) m (upd H p o) (some p) σ[i]? sl) :
    SRel W z m ow (ρ.set i sl) A σ (upd H p o) := by
  have hp0 := S.own0 i p h0
  have hmu : muOf z.mu m ow p := .inr (.inr ⟨i, h0⟩)
  have le : Le (muOf z.mu m ow) H (muOf z.mu m ow) (upd H p o) := ⟨fun a u e n => by rw [upd_ne fun (q : a = p) => n (q ▸ hmu)]; exact e, fun _ _ _ n => n⟩
  refine ⟨by simp [S.len], S.own0, S.ownm, S.omu, S.inj, fun j hj => S.out j (by simpa using hj), ⟨S.sm.pre, fun a u e n => ?_, fun a u e => ?_, S.sm.new⟩, fun q w => ?_, fun j sl' e => ?_, S.hp.mono le S.ok fun q hq => upd_ne fun (e : q = p) => S.ownm i p h0 (e ▸ hq), S.cl⟩
  · rw [upd_ne fun (q : a = p) => by rw [q, hp0] at e; cases e]
    exact S.sm.keep a u e n
  · rw [upd_ne fun (q : a = p) => by rw [q, hp0] at e; cases e]
    exact S.sm.live a u e
  · by_cases hq : q = p
    · subst hq
      exact ⟨o, upd_same, n1, n2⟩
    · obtain ⟨u, e, k⟩ := S.ok q w
      exact ⟨u, by rw [upd_ne hq]; exact e, k⟩
  · by_cases q : i = j
    · subst q
      rw [List.getElem?_set_self hi] at e
      cases e
      rw [h0]
      exact hs
    · rw [List.getElem?_set_ne q] at e
      have k := S.slot j sl' e
      have np : ∀ p', ow j = some p' → p' ≠ p := fun p' e' ee => q (S.inj i j p h0 (ee ▸ e'))
      cases sl' with
      | no => exact k
      | clo => exact k
      | val d => obtain ⟨q1, v, q2, q3⟩ := k; exact ⟨q1, v, q2, q3.mono le S.ok ⟨[], by simp⟩⟩
      | own l' => obtain ⟨p', vs, q1, q2, q3, q4⟩ := k; exact ⟨p', vs, q1, q2, by rw [upd_ne (np p' q1)]; exact q3, q4.mono le S.ok ⟨[], by simp⟩⟩
      | ownD l' => obtain ⟨p', es, q1, q2, q3, k, q4⟩ := k; exact ⟨p', es, q1, q2, by rw [upd_ne (np p' q1)]; exact q3, k, q4.mono le S.ok ⟨[], by simp⟩⟩
/-- an object of the heap changes -/
theorem SRel.upHeap {p : Addr} {r : Nat} {ao : AO} {o : HO} (S : SRel W z m ow ρ A σ H) (hr : m[r]? = some p) (n1 : ∀ xs, o ≠ .tup xs) (n2 : ∀ ob u, o ≠ .frz ob u) (hs : AoR W (muOf z.mu m ow) m (upd H p o) p ao) (ht : ∀ q, A[r]? ≠ some (.tab q)) :
    SRel W z m ow ρ (A.set r ao) σ (upd H p o) ∧ Le (muOf z.mu m ow) H (muOf z.mu m ow) (upd H p o) := by
  have hmem : p ∈ m := List.mem_of_getElem? hr
  have hmu : muOf z.mu m ow p := .inr (.inl hmem)
  have le : Le (muOf z.mu m ow) H (muOf z.mu m ow) (upd H p o) := ⟨fun a u e n => by rw [upd_ne fun (q : a = p) => n (q ▸ hmu)]; exact e, fun _ _ _ n => n⟩
  refine ⟨⟨S.len, S.own0, S.ownm, S.omu, S.inj, S.out, ⟨S.sm.pre, fun a u e n => ?_, fun a u e => ?_, S.sm.new⟩, fun q w => ?_, fun j sl' e => ?_, ⟨by simp [S.hp.len], S.hp.inj, fun j q ob hj ho => ?_, fun t P q e => by
    obtain ⟨a, b⟩ := S.hp.tb t P q e
    refine ⟨a, ?_⟩
    rw [List.getElem?_set_ne fun (z : r = t) => ht q (z ▸ b)]
    exact b⟩, S.cl⟩, le⟩
  · have hne : a ≠ p := fun q => by
      subst q
      have := S.sm.new a hmem n
      rw [e] at this
      cases this
    rw [upd_ne hne]
    exact S.sm.keep a u e n
  · by_cases q : a = p
    · subst q; exact ⟨o, upd_same⟩
    · rw [upd_ne q]; exact S.sm.live a u e
  · by_cases hq : q = p
    · subst hq
      exact ⟨o, upd_same, n1, n2⟩
    · obtain ⟨u, e, k⟩ := S.ok q w
      exact ⟨u, by rw [upd_ne hq]; exact e, k⟩
  · have k := S.slot j sl' e
    have np : ∀ p', ow j = some p' → p' ≠ p := fun p' e' ee => S.ownm j p' e' (ee ▸ hmem)
    cases sl' with
    | no => exact k
    | clo => exact k
    | val d => obtain ⟨q1, v, q2, q3⟩ := k; exact ⟨q1, v, q2, q3.mono le S.ok ⟨[], by simp⟩⟩
    | own l' => obtain ⟨p', vs, q1, q2, q3, q4⟩ := k; exact ⟨p', vs, q1, q2, by rw [upd_ne (np p' q1)]; exact q3, q4.mono le S.ok ⟨[], by simp⟩⟩
    | ownD l' => obtain ⟨p', es, q1, q2, q3, k, q4⟩ := k; exact ⟨p', es, q1, q2, by rw [upd_ne (np p' q1)]; exact q3, k, q4.mono le S.ok ⟨[], by simp⟩⟩
  · by_cases q' : j = r
    · subst q'
      rw [hr] at hj
      cases hj
      have hl : j < A.length := by
        have := (List.getElem?_eq_some_iff.mp ho).1
        simpa using this
      rw [List.getElem?_set_self hl] at ho
      cases ho
      exact hs
    · rw [List.getElem?_set_ne (fun h => q' h.symm)] at ho
      exact (S.hp.obj j q ob hj ho).mono le S.ok ⟨[], by simp⟩ (upd_ne fun (e : q = p) => q' (S.hp.inj j r q hj (e ▸ hr)))
end
/-! ### statements -/
inductive Fl where
  | nx (ρ : Env) | rt (d : D)
/-- from a state to a later one, by statements -/
structure Lt (z : En) (m : List Addr) (ow : Ow) (H : Hp) (m' : List Addr) (ow' : Ow) (H' : Hp) : Prop where
  le : Le (muOf z.mu m ow) H (muOf z.mu m' ow') H'
  pre : m <+: m'
theorem Lt.refl {z m ow H} : Lt z m ow H m ow H := ⟨Le.refl _ _, ⟨[], by simp⟩⟩
theorem Lt.trans {z m ow H m1 ow1 H1 m2 ow2 H2} (a : Lt z m ow H m1 ow1 H1) (b : Lt z m1 ow1 H1 m2 ow2 H2) : Lt z m ow H m2 ow2 H2 := ⟨a.le.trans b.le, a.pre.trans b.pre⟩
theorem Sm.lt {z m ow H m' H'} (s : Sm m H m' H') : Lt z m ow H m' ow H' := ⟨s.le, s.pre⟩
def OutF (W : Wd) (z : En) (Wx : WX) (m : List Addr) (ow : Ow) (H : Hp) (Dn : Ends) : R Fl → Prop
  | .ok (.nx ρ') A' => ∀ m' ow' σ' H', Lt z m ow H m' ow' H' → SRel W z m' ow' ρ' A' σ' H' → Dn.nx σ' H'
  | .ok (.rt d) A' => ∀ m' ow' ρ' σ' H' v, Lt z m ow H m' ow' H' → SRel W z m' ow' ρ' A' σ' H' → Rep W (muOf z.mu m' ow') m' H' d v → Dn.rt v H'
  | .exc x A' => ∀ m' ow' ρ' σ' H' cls dd, Lt z m ow H m' ow' H' → SRel W z m' ow' ρ' A' σ' H' → ExR W (muOf z.mu m' ow') m' H' x cls dd → Wx cls dd σ' H'
  | .stuck => False
def TSt (W : Wd) (z : En) (Wx : WX) (f : Env → M Fl) : TS := fun Dn σ H => ∃ m ow ρ A, SRel W z m ow ρ A σ H ∧ OutF W z Wx m ow H Dn (f ρ A)
theorem ps_weak {X : Cx} {st : Stmt} {t t' : TS} (h : PS X st t) (w : ∀ D σ H, t' D σ H → t D σ H) : PS X st t' := ⟨fun pins s σ H D I q => h.run pins s σ H D I (w D σ H q)⟩
theorem pss_weak {X : Cx} {st : List Stmt} {t t' : TS} (h : PSs X st t) (w : ∀ D σ H, t' D σ H → t D σ H) : PSs X st t' := ⟨fun pins s σ H D I q => h.run pins s σ H D I (w D σ H q)⟩
abbrev GS (X : Cx) (W : Wd) (z : En) (Wx : WX) (st : Stmt) (f : Env → M Fl) : Prop := PS X st (TSt W z Wx f)
abbrev GSs (X : Cx) (W : Wd) (z : En) (Wx : WX) (st : List Stmt) (f : Env → M Fl) : Prop := PSs X st (TSt W z Wx f)
section
variable {X : Cx} {W : Wd} {z : En} {Wx : WX} {m m' : List Addr} {ow ow' : Ow} {ρ ρ' : Env} {A A' : AH} {σ : L2.St} {H H' : Hp} {i : Nat} {Dn : Ends} {st : Stmt} {rest : List Stmt} {e : Expr} {f : Env → M D} {pos : Pos}
theorem OutF.later {r : R Fl} (h : OutF W z Wx m ow H Dn r) (s : Lt z m ow H m' ow' H') : OutF W z Wx m' ow' H' Dn r := by
  cases r with
  | ok fl A' =>
    cases fl with
    | nx ρ' => exact fun m2 ow2 σ2 H2 s2 => h m2 ow2 σ2 H2 (s.trans s2)
    | rt d => exact fun m2 ow2 ρ2 σ2 H2 v s2 => h m2 ow2 ρ2 σ2 H2 v (s.trans s2)
  | exc x A' => exact fun m2 ow2 ρ2 σ2 H2 c dd s2 => h m2 ow2 ρ2 σ2 H2 c dd (s.trans s2)
  | stuck => exact h
/-- an expression within a statement -/
theorem ts_then {α β : Type} {rp : Rp α β} {fa : Env → M α} {k : α → M Fl} {P : β → Hp → Prop} (S : SRel W z m ow ρ A σ H) (h : OutF W z Wx m ow H Dn ((fa ρ).bind k A))
    (hk : ∀ m' H' A' d v, Sm m H m' H' → SRel W z m' ow ρ A' σ H' → rp (muOf z.mu m' ow) m' H' d v → OutF W z Wx m' ow H' Dn (k d A') → P v H') : TG W z Wx rp fa σ H P := by
  refine ⟨m, ow, ρ, A, S, ?_⟩
  unfold M.bind at h
  cases e : fa ρ A with
  | ok d A' =>
    rw [e] at h
    exact fun m' H' v s S' r => hk m' H' A' d v s S' r (OutF.later h s.lt)
  | exc x A' =>
    rw [e] at h
    exact fun m' H' cls dd s S' r => h m' ow ρ σ H' cls dd s.lt S' r
  | stuck =>
    rw [e] at h
    exact h.elim
theorem ofO_F {α : Type} {o : Option α} {k : α → M Fl} (h : OutF W z Wx m ow H Dn ((ofO o).bind k A)) : ∃ d, o = some d ∧ OutF W z Wx m ow H Dn (k d A) := by
  cases o with
  | none => exact h.elim
  | some d => exact ⟨d, rfl, h⟩
theorem gss_nil : GSs X W z Wx [] (fun ρ => M.pure (.nx ρ)) := pss_weak pss_nil fun D σ H ⟨m, ow, ρ, A, S, q⟩ => q m ow σ H Lt.refl S
def seqF (f g : Env → M Fl) : Env → M Fl := fun ρ => (f ρ).bind fun r => match r with
  | .nx ρ' => g ρ'
  | .rt d => M.pure (.rt d)
theorem gss_cons {f g : Env → M Fl} (h : GS X W z Wx st f) (h2 : GSs X W z Wx rest g) : GSs X W z Wx (st :: rest) (seqF f g) := pss_weak (pss_cons h h2) fun D σ H ⟨m, ow, ρ, A, S, q⟩ => by
  refine ⟨m, ow, ρ, A, S, ?_⟩
  unfold seqF M.bind at q
  cases e : f ρ A with
  | ok fl A' =>
    rw [e] at q
    cases fl with
    | nx ρ' => exact fun m' ow' σ' H' l S' => ⟨m', ow', ρ', A', S', OutF.later q l⟩
    | rt d => exact q
  | exc x A' => rw [e] at q; exact q
  | stuck => rw [e] at q; exact q.elim
def evSet (i : Nat) (f : Env → M D) : Env → M Fl := fun ρ => (f ρ).bind fun d => (ofO (setV (dropS ρ i) i d)).bind fun ρ' => M.pure (.nx ρ')
theorem set_w {Q : VK} (h : TSt W z Wx (evSet i f) Dn σ H) : TEv W z Wx false f σ H fun x H1 => gName i x σ H1 Dn.nx := by
  obtain ⟨m, ow, ρ, A, S, q⟩ := h
  refine ts_then (fa := f) S q fun m1 H1 A1 d v s1 S1 r1 q1 => ?_
  obtain ⟨ρ', eρ, q2⟩ := ofO_F q1
  have SD := S1.drop (i := i)
  exact q2 m1 _ _ H1 ⟨le_none, ⟨[], by simp⟩⟩ (SD.setv eρ (Rep.mono le_none S1.ok ⟨[], by simp⟩ r1))
theorem gs_set {x : Str} {pos' : Pos} (hN : X.N.Nodup) (hi : X.N[i]? = some x) (hx : Loc X.env.scope x) (hf : X.fn x = true ∨ X.env.scope.names.lookup x = some .local) (he : GE X W z Wx false e f) (hs : swapsWith e (some (.Name x pos')) pos.line X.env = pure false) :
    GS X W z Wx (.Assign [.Name x pos'] e pos) (evSet i f) := ps_weak (ps_set hN hi hx he hs hf) fun D σ H q => set_w (Q := fun _ _ => True) q
theorem gs_ret (he : GE X W z Wx false e f) : GS X W z Wx (.Return (some e) pos) (fun ρ => (f ρ).bind fun d => M.pure (.rt d)) := ps_weak (ps_ret he) fun D σ H ⟨m, ow, ρ, A, S, q⟩ =>
  ts_then (fa := f) S q fun m1 H1 A1 d v s1 S1 r1 q1 => q1 m1 ow ρ σ H1 v Lt.refl S1 r1
theorem gs_retN : GS X W z Wx (.Return none pos) (fun ρ => M.pure (.rt .non)) := ps_weak ps_retN fun D σ H ⟨m, ow, ρ, A, S, q⟩ => q m ow ρ σ H .non Lt.refl S rfl
theorem gs_pass : GS X W z Wx (.Pass pos) (fun ρ => M.pure (.nx ρ)) := ps_weak ps_pass fun D σ H ⟨m, ow, ρ, A, S, q⟩ => q m ow σ H Lt.refl S
theorem gs_expr {b : Bool} (he : GE X W z Wx b e f) (hs : swapsWith e none pos.line X.env = pure false) : GS X W z Wx (.Expr e pos) (fun ρ => (f ρ).bind fun _ => M.pure (.nx ρ)) := ps_weak (ps_expr he hs) fun D σ H ⟨m, ow, ρ, A, S, q⟩ =>
  ts_then (fa := f) S q fun m1 H1 A1 d v s1 S1 r1 q1 => q1 m1 ow σ H1 Lt.refl S1
def ifF (f : Env → M D) (g h : Env → M Fl) : Env → M Fl := fun ρ => (f ρ).bind fun x => (ofO (asBl x)).bind fun c => if c then g ρ else h ρ
theorem gs_if {a b : List Stmt} {g h : Env → M Fl} (hc : GT X W z Wx e (fun ρ => tst (f ρ))) (ha : GSs X W z Wx a g) (hb : GSs X W z Wx b h) : GS X W z Wx (.If e a b pos) (ifF f g h) := ps_weak (ps_if hc ha hb) fun D σ H ⟨m, ow, ρ, A, S, q⟩ => by
  have q' : OutF W z Wx m ow H D (((tst (f ρ)).bind fun c => if c then g ρ else h ρ) A) := by
    unfold tst
    rw [M.bind_assoc]
    exact q
  refine ts_then (fa := fun ρ => tst (f ρ)) S q' fun m1 H1 A1 c v s1 S1 r1 q1 => ?_
  have r1 : c = v := r1
  subst r1
  cases c with
  | true => exact ⟨m1, ow, ρ, A1, S1, q1⟩
  | false => exact ⟨m1, ow, ρ, A1, S1, q1⟩
/-- lists frozen ahead of a statement -/
def frzL : List Nat → Env → Option Env
  | [], ρ => some ρ
  | i :: l, ρ => match frzS ρ i with
    | some ρ' => frzL l ρ'
    | none => none
theorem SRel.frzL : ∀ {l : List Nat} {ρ ρ' : Env} {ow : Ow}, SRel W z m ow ρ A σ H → Ev.frzL l ρ = some ρ' → ∃ ow', SRel W z m ow' ρ' A σ H ∧ Lt z m ow H m ow' H
  | [], _, _, ow, S, h => by cases h; exact ⟨ow, S, Lt.refl⟩
  | i :: l, ρ, ρ', ow, S, h => by
    have h : (match frzS ρ i with | some ρ' => Ev.frzL l ρ' | none => none) = some ρ' := h
    cases e : frzS ρ i with
    | none => rw [e] at h; cases h
    | some ρ1 =>
      rw [e] at h
      obtain ⟨ow', S', l'⟩ := SRel.frzL (S.frz e) h
      exact ⟨ow', S', Lt.trans (ow1 := owSet ow i none) ⟨le_none, ⟨[], by simp⟩⟩ l'⟩
def fzF (l : List Nat) (f : Env → M Fl) : Env → M Fl := fun ρ => (ofO (frzL l ρ)).bind f
theorem gs_fz {l : List Nat} {f : Env → M Fl} (h : GS X W z Wx st f) : GS X W z Wx st (fzF l f) := ps_weak h fun D σ H ⟨m, ow, ρ, A, S, q⟩ => by
  obtain ⟨ρ', e, q⟩ := ofO_F q
  obtain ⟨ow', S', l'⟩ := S.frzL e
  exact ⟨m, ow', ρ', A, S', OutF.later q l'⟩
/-! ### loops -/
def loopF (t : IT) (g : Env → M Fl) : List D → Env → M Fl
  | [], ρ => M.pure (.nx ρ)
  | d :: ds, ρ => (ofO (evTp t d ρ)).bind fun r => (g r).bind fun fl => match fl with
    | .nx ρ' => loopF t g ds ρ'
    | .rt v => M.pure (.rt v)
theorem gs_for {tg iter : Expr} {body : List Stmt} {wk : Bool} {t : IT} {fi : Env → M (List D)} {g : Env → M Fl} (hp : PassesOwn (model X.prog X.w) X.A X.env X.xe) (hc : X.calm = true) (hi : GI X W z Wx false wk tg iter fi) (hg : PG X tg (TGp W z wk t)) (hb : GSs X W z Wx body g)
    (hs : ∀ x, foldedSetIterable iter X.env x = pure x) : GS X W z Wx (.For tg iter body [] pos) (fun ρ => (fi ρ).bind fun ds => loopF t g ds ρ) := ps_weak (ps_for hp hc hi hg hb hs) fun D σ H ⟨m, ow, ρ, A, S, q⟩ => by
  refine ts_then (fa := fi) S q fun m1 H1 A1 ds J s1 S1 r1 q1 => ?_
  refine ⟨fun i n σ H => n = ds.length - i ∧ i ≤ ds.length ∧ ∃ m ow' ρ A, SRel W z m ow' ρ A σ H ∧ Lt z m1 ow H1 m ow' H ∧ OutF W z Wx m ow' H D (loopF t g (ds.drop i) ρ A), ⟨ds.length, by simp, Nat.zero_le _, m1, ow, ρ, A1, S1, Lt.refl, q1⟩, ?_⟩
  rintro i n σ2 H2 ⟨rfl, hi, m2, ow2, ρ2, A2, S2, l2, q2⟩
  have sq := r1 (muOf z.mu m2 ow2) m2 H2 l2.le S2.ok l2.pre fun e => by cases e
  by_cases hlt : i < ds.length
  · right
    have ed : ds[i]? = some ds[i] := List.getElem?_eq_getElem hlt
    obtain ⟨go, yl⟩ := sq.go i ds[i] ed
    have edr : ds.drop i = ds[i] :: ds.drop (i + 1) := (List.drop_eq_getElem_cons hlt)
    rw [edr] at q2
    obtain ⟨ρ3, eT, q3⟩ := ofO_F q2
    refine ⟨go, fun σ' H' => ∃ m ow' ρ A, SRel W z m ow' ρ A σ' H' ∧ Lt z m1 ow H1 m ow' H' ∧ OutF W z Wx m ow' H' D (loopF t g (ds.drop (i + 1)) ρ A), fun σ' H' hp => ⟨ds.length - (i + 1), by omega, rfl, hlt, hp⟩, fun x H' y => ?_⟩
    obtain ⟨ld, ri⟩ := yl x H' y
    have S2' := S2.ld ld
    have l3 : Lt z m2 ow2 H2 m2 ow2 H' := ld.sm.lt
    refine ⟨m2, ow2, ρ2, A2, ds[i], ρ3, S2', ri, eT, fun σ4 dif S4 => ?_⟩
    refine ⟨m2, ow2, ρ3, A2, S4, ?_⟩
    unfold M.bind at q3
    cases eg : g ρ3 A2 with
    | ok fl A5 =>
      rw [eg] at q3
      cases fl with
      | nx ρ5 => exact fun m5 ow5 σ5 H5 l5 S5 => ⟨m5, ow5, ρ5, A5, S5, (l2.trans l3).trans l5, OutF.later q3 (l3.trans l5)⟩
      | rt d => exact OutF.later (r := .ok (.rt d) A5) q3 l3
    | exc x A5 => rw [eg] at q3; exact OutF.later (r := .exc x A5) q3 l3
    | stuck => rw [eg] at q3; exact q3.elim
  · left
    have ei : i = ds.length := by omega
    subst ei
    rw [List.drop_length] at q2
    exact ⟨sq.stop, q2 m2 ow2 σ2 H2 Lt.refl S2⟩
def whileF (f : Env → M D) (g : Env → M Fl) : Nat → Env → M Fl
  | 0, _ => stk
  | n + 1, ρ => (f ρ).bind fun x => (ofO (asBl x)).bind fun c => if c then (g ρ).bind fun fl => match fl with
      | .nx ρ' => whileF f g n ρ'
      | .rt v => M.pure (.rt v)
    else M.pure (.nx ρ)
theorem gs_while {body : List Stmt} {g : Env → M Fl} {n : Nat} (hp : PassesOwn (model X.prog X.w) X.A X.env X.xe) (hc : GT X W z Wx e (fun ρ => tst (f ρ))) (hb : GSs X W z Wx body g) : GS X W z Wx (.While e body [] pos) (whileF f g n) := ps_weak (ps_while hp hc hb) fun D σ H ⟨m, ow, ρ, A, S, q⟩ => by
  refine ⟨fun k σ H => ∃ m ow ρ A, SRel W z m ow ρ A σ H ∧ OutF W z Wx m ow H D (whileF f g k ρ A), ⟨n, m, ow, ρ, A, S, q⟩, ?_⟩
  rintro k σ1 H1 ⟨m1, ow1, ρ1, A1, S1, q1⟩
  cases k with
  | zero => exact q1.elim
  | succ k =>
    have q' : OutF W z Wx m1 ow1 H1 D (((tst (f ρ1)).bind fun c => if c then (g ρ1).bind fun fl => match fl with
      | .nx ρ' => whileF f g k ρ'
      | .rt v => M.pure (.rt v) else M.pure (.nx ρ1)) A1) := by
      unfold tst
      rw [M.bind_assoc]
      exact q1
    refine ts_then (fa := fun ρ => tst (f ρ)) S1 q' fun m2 H2 A2 c v s2 S2 r2 q2 => ?_
    have r2 : c = v := r2
    subst r2
    cases c with
    | false => exact q2 m2 ow1 σ1 H2 Lt.refl S2
    | true =>
      refine ⟨fun σ' H' => ∃ m ow ρ A, SRel W z m ow ρ A σ' H' ∧ OutF W z Wx m ow H' D (whileF f g k ρ A), fun σ' H' h => ⟨k, Nat.lt_succ_self k, h⟩, ?_⟩
      refine ⟨m2, ow1, ρ1, A2, S2, ?_⟩
      simp only [if_true] at q2
      unfold M.bind at q2
      cases eg : g ρ1 A2 with
      | ok fl A5 =>
        rw [eg] at q2
        cases fl with
        | nx ρ5 => exact fun m5 ow5 σ5 H5 l5 S5 => ⟨m5, ow5, ρ5, A5, S5, OutF.later q2 l5⟩
        | rt d => exact q2
      | exc x A5 => rw [eg] at q2; exact q2
      | stuck => rw [eg] at q2; exact q2.elim
end
end Ev
end
section
set_option maxHeartbeats 2000000
namespace Ev
open PySem PySem.Spec PyProof.Rows L2
/-! ### a def -/
def runF (f : Env → M Fl) (n : Nat) (ds : List D) : M D := (f (ds.map .val ++ List.replicate (n - ds.length) .no)).bind fun fl => match fl with
  | .rt d => M.pure d
  | .nx _ => M.pure .non
section
variable {P : Program} {w : World} {K : PySem.W.Frag} {mg : Str → Option Value} {base : Heap} {k : Nat} {fa : Addr} {name qual : Str} {params : Arguments} {body : List Stmt} {scope : Scope} {dV kV doc pm cdv ct oc : Value} {an od : Option Addr}
  {osl : Array (Option Value)} {N ps : List Str} {W : Wd} {f : Env → M Fl}
/-- the contexts of a def's body -/
structure BX (W : Wd) (P : Program) (w : World) (K : PySem.W.Frag) (mg : Str → Option Value) (base : Heap) (k : Nat) (N : List Str) (scope : Scope) (E : XK) (qual : Str) (cdv : Value) (X : Cx) : Prop where
  c : CtxOk X W
  hP : X.prog = P
  hw : X.w = w
  hb : X.base = base
  hN : X.N = N
  sc : X.env.scope = scope
  calm : X.calm = true
  fn : ∀ x, X.fn x = true
  gd : X.A.guards = some []
  room : Room k X.A
  tk : L2.Takes X (fun c d _ H => E c d H)
  own : PassesOwn (model X.prog X.w) X.A X.env X.xe
  code : X.env.code = cdv
  qual : X.env.qual = qual ++ ".<locals>."
theorem muOf_sub {mu0 : Addr → Prop} {m : List Addr} {ow : Ow} {H : Hp} : Le (muOf mu0 m ow) H (muOf mu0 m ow0) H := ⟨fun _ _ e _ => e, fun a o e n q => n (by
  rcases q with q | q | ⟨i, q⟩
  · exact .inl q
  · exact .inr (.inl q)
  · cases q)⟩
theorem muOk_sub {mu0 : Addr → Prop} {m : List Addr} {ow : Ow} {H : Hp} (h : MuOk (muOf mu0 m ow) H) : MuOk (muOf mu0 m ow0) H := fun p q => h p (by
  rcases q with q | q | ⟨i, q⟩
  · exact .inl q
  · exact .inr (.inl q)
  · cases q)
theorem start_get {vs : List V} {i : Nat} : i < vs.length → (start N vs)[i]? = (vs[i]?).map some := fun h => by
  unfold L2.start
  rw [List.getElem?_append_left (by simpa using h), List.getElem?_map]
theorem start_rel {mu0 : Addr → Prop} {m : List Addr} {A : AH} {H : Hp} {ds : List D} {vs : List V} (ok : MuOk (muOf mu0 m ow0) H) (hp : HRel W (muOf mu0 m ow0) m A H) (r : Reps W (muOf mu0 m ow0) m H ds vs) (hl : vs.length ≤ N.length) (hc : W.cl = none) :
    SRel W ⟨mu0, H, m⟩ m ow0 (ds.map .val ++ List.replicate (N.length - ds.length) .no) A (start N vs) H := by
  have hd := r.length
  refine ⟨?_, (fun _ _ e => by cases e), (fun _ _ e => by cases e), (fun _ _ e => by cases e), (fun _ _ _ e => by cases e), (fun _ _ => rfl), Sm.refl _ _, ok, fun i sl e => ?_, hp, fun f z0 e => by rw [hc] at e; cases e⟩
  · unfold L2.start
    simp [hd]
  · by_cases hi : i < ds.length
    · rw [List.getElem?_append_left (by simpa using hi), List.getElem?_map, List.getElem?_eq_getElem hi] at e
      cases e
      obtain ⟨v, hv, rv⟩ := r.get (List.getElem?_eq_getElem hi)
      refine ⟨rfl, v, ?_, rv⟩
      rw [start_get (by omega), hv]
      rfl
    · rw [List.getElem?_append_right (by simpa using hi)] at e
      have hm : sl ∈ List.replicate (N.length - ds.length) Sl.no := List.mem_of_getElem? e
      rw [List.eq_of_mem_replicate hm]
      rfl
theorem fnG_of (lk : K.lookup fa = some ⟨oc, od, .func (PySem.W.fnOf name qual params body scope dV kV doc pm an cdv ct), osl⟩) (hcd : PySem.W.codeIn K cdv qual = true) (S : FnScope N ps scope) (eK : W.K = K) (emg : W.mg = mg) (ew : W.w = w) (ec : W.cl = none) (hlen : ps.length ≤ N.length)
    (hbody : ∀ (z : En) (E : XK) (X : Cx), BX W P w K mg base k N scope E qual cdv X → GSs X W z (fun c d _ H => E c d H) body f) :
    FnG P w K mg base (L2.CX P w) (k + 1) fa (PySem.W.fnOf name qual params body scope dV kV doc pm an cdv ct) ps (spOf W ps.length (runF f N.length)) := by
  have len : ∀ vs H Q E, spOf W ps.length (runF f N.length) vs H Q E → vs.length = ps.length := fun vs H Q E h => h.1
  refine ⟨len, fun A outer s H args us vs Q E hr hgd e0 hb r hsp => ?_⟩
  have hl := len _ _ _ _ hsp
  have KX : K.In s.heap := e0.mod.kin.keeps fun b o e => (e0.bs b o e).1
  have lim : s.heap.NoLimit := e0.mod.nolimit.keeps fun b o e => (e0.bs b o e).1
  have hkind : ∀ y ∈ ps.zip us, scope.names.lookup y.1 = some .local ∨ (scope.names.lookup y.1 = some .cell ∧ ((cellsFrom (s.heap.objs.size + 1) scope.names []).lookup y.1).isSome = true) := fun ⟨n, v⟩ hy => by
    rcases S.par n (List.of_mem_zip hy).1 with q | q
    · exact .inl q
    · exact .inr ⟨q, PySem.W.cellsFrom_some _ _ _ (.inl q)⟩
  refine codeAny_call_function hr.depth (KX _ _ lk) rfl S.co S.gen rfl (PySem.W.codeRec_of KX hcd) (hb _ _ _ _ ?_)
  refine wpAny_newFunctionEnv_cells S.kind hkind fun env he s1 x => ?_
  subst he
  refine ⟨lim.keeps x.toInCall.keep, codeAny_func ?_⟩
  have I : Inv (cxOf (L2.CX P w) P w K mg base N qual scope fa cdv A outer s H E) [] (start N vs) H s1 := inv_start S hr.hd e0 hl r x
  obtain ⟨_, mu0, m, AA, ds, ok, hp, rd, out⟩ := hsp
  have bx : BX W P w K mg base k N scope E qual cdv (cxOf (L2.CX P w) P w K mg base N qual scope fa cdv A outer s H E) := ⟨⟨eK.symm, emg.symm, ew.symm⟩, rfl, rfl, rfl, rfl, rfl, rfl, fun _ => rfl, hgd, hr.deeper _,
    L2.takes_of rfl rfl rfl rfl, L2.passes_of (E₁ := fun e' s'' => L2.CX P w outer H s E e' s'') rfl, rfl, rfl⟩
  have ht := hbody ⟨mu0, H, m⟩ E _ bx
  have tq : TSt W ⟨mu0, H, m⟩ (fun c d _ H => E c d H) f { nx := fun _ H' => Q .non H', rt := Q } (start N vs) H := by
    refine ⟨m, ow0, _, AA, start_rel ok hp rd (by rw [hl]; exact hlen) ec, ?_⟩
    unfold runF M.bind at out
    cases e : f (ds.map .val ++ List.replicate (N.length - ds.length) .no) AA with
    | ok fl A' =>
      rw [e] at out
      cases fl with
      | nx ρ' => exact fun m' ow' σ' H' l S' => out m' H' .non S'.sm (muOk_sub S'.ok) (S'.hp.mono muOf_sub S'.ok fun _ _ => rfl) rfl
      | rt d => exact fun m' ow' ρ' σ' H' v l S' rv => out m' H' v S'.sm (muOk_sub S'.ok) (S'.hp.mono muOf_sub S'.ok fun _ _ => rfl) (rv.mono muOf_sub S'.ok ⟨[], by simp⟩)
    | exc x A' =>
      rw [e] at out
      intro m' ow' ρ' σ' H' cls dd l S' rx
      refine out m' H' cls dd S'.sm (muOk_sub S'.ok) (S'.hp.mono muOf_sub S'.ok fun _ _ => rfl) ?_
      obtain ⟨C, h1, h2, h3⟩ := rx
      refine ⟨C, h1, h2, ?_⟩
      rcases h3 with h3 | ⟨d, vs, h4, h5, h6⟩
      · exact .inl h3
      · refine .inr ⟨d, vs, h4, h5, ?_⟩
        clear h5 e out
        generalize x.fs = fs at h6
        induction fs generalizing vs with
        | nil => exact h6
        | cons q fs ih =>
          obtain ⟨q1, q2⟩ := q
          obtain ⟨v, t, e1, e2, e3⟩ := h6
          exact ⟨v, t, e1, e2.mono muOf_sub S'.ok ⟨[], by simp⟩, ih t e3⟩
    | stuck => rw [e] at out; exact out.elim
  refine wpAny_mono (ht.run [] s1 (start N vs) H _ I tq) (fun fl s' hs => ?_) fun e s' hs => hs
  have fin : ∀ {σ' : L2.St} {H' : Hp} {v : V} {u : Value}, Inv (cxOf (L2.CX P w) P w K mg base N qual scope fa cdv A outer s H E) [] σ' H' s' → RelV v u → Q v H' → CE outer P w H s Q u s' :=
    fun {σ' H' v u} J rv q => ⟨v, H', J.os, J.bare, J.base, J.hok, rv, q⟩
  cases fl with
  | ret u =>
    obtain ⟨v, σ', H', J, rv, q⟩ := hs
    exact fin J rv q
  | next =>
    obtain ⟨σ', H', J, q⟩ := hs
    exact fin (v := V.non) (u := Value.none) J rfl q
  | brk =>
    obtain ⟨_, _, _, q⟩ := hs
    exact False.elim q
  | cont =>
    obtain ⟨_, _, _, q⟩ := hs
    exact False.elim q
end
end Ev
end
section
set_option maxHeartbeats 2000000
namespace Ev
open PySem PySem.Spec PyProof.Rows L2
section
variable {X : Cx} {W : Wd} {z : En} {Wx : WX} {m m' : List Addr} {ow ow' : Ow} {ρ ρ' : Env} {A A' : AH} {σ : L2.St} {H H' : Hp} {i j : Nat} {Dn : Ends} {st : Stmt} {e e1 e2 : Expr} {f f1 f2 : Env → M D} {fl : Env → M (List D)} {es : List Expr} {pos pos' p1 apos cpos : Pos} {x y : Str} {te : TE}
/-- what the proof never comes to -/
theorem gs_never : GS X W z Wx st (fun _ => stk) := ps_weak ps_never fun D σ H ⟨m, ow, ρ, A, S, q⟩ => q
/-! ### a name takes a value -/
theorem gs_set_of (h : PS X (.Assign [.Name x pos'] e pos) (tAsg te (gName i))) (w : ∀ σ H Q, TEv W z Wx false f σ H Q → te σ H Q) : GS X W z Wx (.Assign [.Name x pos'] e pos) (evSet i f) := ps_weak h fun D σ H q => w _ _ _ (set_w (Q := fun _ _ => True) q)
def nwS : D → Sl
  | .lst l => .own l
  | .dct l => .ownD l
  | _ => .no
def newV (ρ : Env) (i : Nat) : D → Option Env
  | .lst l => if i < ρ.length then some (ρ.set i (.own l)) else none
  | .dct l => if i < ρ.length then some (ρ.set i (.ownD l)) else none
  | _ => none
theorem newV_some {d : D} (h : newV ρ i d = some ρ') : i < ρ.length ∧ ρ' = ρ.set i (nwS d) ∧ isNw d = true := by
  cases d with
  | lst l =>
    have h : (if i < ρ.length then some (ρ.set i (.own l)) else none) = some ρ' := h
    split at h
    · rename_i q; cases h; exact ⟨q, rfl, rfl⟩
    · cases h
  | dct l =>
    have h : (if i < ρ.length then some (ρ.set i (.ownD l)) else none) = some ρ' := h
    split at h
    · rename_i q; cases h; exact ⟨q, rfl, rfl⟩
    · cases h
  | _ => cases h
theorem newV_no {d : D} (h : isNw d = false) : newV ρ i d = none := by
  cases d <;> first | rfl | cases h
def evNew (i : Nat) (f : Env → M D) : Env → M Fl := fun ρ => (f ρ).bind fun d => (ofO (newV (dropS ρ i) i d)).bind fun ρ' => M.pure (.nx ρ')
/-- a new list or dict, in a statement -/
theorem tsn_then {k : D → M Fl} {P : VK} (S : SRel W z m ow ρ A σ H) (h : OutF W z Wx m ow H Dn ((f ρ).bind k A)) (hn : ∀ d A', isNw d = false → k d A' = .stuck)
    (hk : ∀ m' H' A' d p, Sm m H m' H' → H p = none → SRel W (z.add p) m' ow ρ A' σ H' → p ∉ m' → NwR W (muOf (z.add p).mu m' ow) m' H' p d → OutF W z Wx m ow H Dn (k d A') → P (.ref p) H') : TN W z Wx f σ H P := by
  refine ⟨m, ow, ρ, A, S, ?_⟩
  unfold M.bind at h
  cases e : f ρ A with
  | ok d A' =>
    rw [e] at h
    cases hd : isNw d with
    | true => exact ⟨hd, fun m' H' p s hp S' nm r => hk m' H' A' d p s hp S' nm r h⟩
    | false =>
      dsimp only at h
      rw [hn _ A' hd] at h
      exact h.elim
  | exc x A' =>
    rw [e] at h
    exact fun m' H' cls dd s S' r => h m' ow ρ σ H' cls dd s.lt S' r
  | stuck =>
    rw [e] at h
    exact h.elim
theorem owSet_same {ow : Ow} {i : Nat} {o : Option Addr} : owSet ow i o i = o := by unfold owSet; simp
theorem SRel.drop' (S : SRel W z m ow ρ A σ H) : SRel W z m (owSet ow i none) (dropS ρ i) A σ H := S.drop
/-- the new object goes to a slot -/
theorem SRel.take {p : Addr} {d : D} (S : SRel W (z.add p) m ow ρ A σ H) (hz0 : z.H p = none) (nz : ¬ z.mu p) (nm : p ∉ m) (r : NwR W (muOf (z.add p).mu m ow) m H p d) (hi : i < ρ.length) :
    SRel W z m (owSet (owSet ow i none) i (some p)) ((dropS ρ i).set i (nwS d)) A (σ.set i (some (.ref p))) H := by
  have S1 := S.drop (i := i)
  have le : Le (muOf (z.add p).mu m ow) H (muOf (z.add p).mu m (owSet ow i none)) H := le_none
  have em : muOf z.mu m (owSet (owSet ow i none) i (some p)) = muOf (z.add p).mu m (owSet ow i none) := funext fun q => propext (muOf_own owSet_same)
  refine S1.own owSet_same (by unfold dropS; simpa using hi) hz0 nm (fun j e => S1.omu j p e (.inr rfl)) nz ?_
  rw [em]
  have r : NwR W (muOf (z.add p).mu m (owSet ow i none)) m H p d := r.mono le S.ok ⟨[], by simp⟩ fun o e => e
  cases d with
  | lst l => obtain ⟨vs, hv, r⟩ := r; exact ⟨p, vs, rfl, rfl, hv, r⟩
  | dct l => obtain ⟨es, hv, k, r⟩ := r; exact ⟨p, es, rfl, rfl, hv, k, r⟩
  | _ => exact r.elim
theorem lt_take {p : Addr} {m1 : List Addr} {H1 : Hp} {i : Nat} (hp : H p = none) (s : Sm m H m1 H1) : Lt z m ow H m1 (owSet (owSet ow i none) i (some p)) H1 := ⟨⟨fun a o e n => s.keep a o e fun q => n (.inr (.inl q)), fun a o e n q => by
  rcases q with q | q | ⟨j, q⟩
  · exact n (.inl q)
  · have := s.new a q fun y => n (.inr (.inl y))
    rw [e] at this
    cases this
  · unfold owSet at q
    split at q
    · cases q
      rw [hp] at e
      cases e
    · exact n (.inr (.inr ⟨j, q⟩))⟩, s.pre⟩
theorem SRel.fr {p : Addr} (S : SRel W z m ow ρ A σ H) (hp : H p = none) : z.H p = none ∧ ¬ z.mu p := ⟨S.zH hp, fun q => by
  obtain ⟨o, e, _⟩ := S.ok p (.inl q)
  rw [hp] at e
  cases e⟩
theorem gs_new_of (h : PS X (.Assign [.Name x pos'] e pos) (tAsg te (gName i))) (w : ∀ σ H Q, TN W z Wx f σ H Q → te σ H Q) : GS X W z Wx (.Assign [.Name x pos'] e pos) (evNew i f) := ps_weak h fun D σ H ⟨m, ow, ρ, A, S, q⟩ => w _ _ _ (by
  refine tsn_then S q (fun d A' hd => ?_) fun m1 H1 A1 d p s1 hp S1 nm r q1 => ?_
  · rw [newV_no hd]
    rfl
  · obtain ⟨ρ', eρ, q2⟩ := ofO_F q1
    obtain ⟨h1, h2⟩ := S.fr hp
    obtain ⟨hi, rfl, _⟩ := newV_some eρ
    exact q2 m1 _ _ H1 (lt_take hp s1) (S1.take h1 h2 nm r (by unfold dropS at hi; simpa using hi)))
/-- {} -/
theorem gn_dct0 : PE X (.Dict [] [] pos) (TN W z Wx (fun _ => M.pure (.dct []))) :=
  ⟨fun pins s σ H Q I ⟨m, ow, ρ, A, S, q⟩ => wpAny_Dict_empty (by
    have hp : H s.heap.objs.size = none := I.hok.fresh (Nat.le_refl _)
    have S2 := S.addD (o := DictO s.heap.objs.size (#[], 0)) hp (fun _ z => by cases z) (fun _ _ z => by cases z)
    have qq := q.2 m _ _ (Sm.laid hp) hp S2 (fun h => by
      obtain ⟨o, e⟩ := S.memH h
      rw [hp] at e
      cases e) ⟨_, upd_same, KvOk.nil, rfl⟩
    exact ⟨.ref s.heap.objs.size, _, I.laid (a := s.heap.objs.size) (o := DictO s.heap.objs.size (#[], 0)) (t' := s.toks) (fun _ _ q => Heap.get?_push_of_some _ q) (Nat.le_refl _) (dictO_new s.heap I.big), rfl, qq⟩)⟩
/-- a display, a new list -/
theorem gn_lst (h : GA X W z Wx false es fl) : PE X (.List es pos) (TN W z Wx (fun ρ => (fl ρ).bind fun l => (grd (decide (l.length ≤ sizeLine))).bind fun _ => M.pure (.lst l))) :=
  pe_weak (pe_lst h) fun σ H Q ⟨m, ow, ρ, A, S, q⟩ => by
    refine tn_then (fa := fl) S q fun m1 H1 A1 t vs s1 S1 r1 q1 => ?_
    obtain ⟨c, q2⟩ := grdn q1
    have c := of_decide_eq_true c
    have r := rpsX_f r1
    refine ⟨by rw [← r.length]; exact c, fun p hp => ?_⟩
    have S2 := S1.addD (o := .lst vs) hp (fun _ z => by cases z) (fun _ _ z => by cases z)
    refine q2.2 m1 _ p (Sm.laid hp) hp S2 (fun h => ?_) ⟨vs, upd_same, ?_⟩
    · obtain ⟨o, e⟩ := S1.memH h
      rw [hp] at e
      cases e
    · refine r.mono ⟨fun a o e _ => by rw [upd_ne (ne_of_none e hp)]; exact e, fun a o e n q => ?_⟩ S1.ok ⟨[], by simp⟩
      rcases q with (q | q) | q
      · exact n (.inl q)
      · rw [q, hp] at e; cases e
      · exact n (.inr q)
/-! ### an own list changes -/
def ownAt (ρ : Env) (i : Nat) : Option (List D) := match ρ[i]? with
  | some (.own l) => some l
  | _ => none
theorem own_at (S : SRel W z m ow ρ A σ H) {l : List D} (h : ownAt ρ i = some l) : ∃ p vs, ow i = some p ∧ σ[i]? = some (some (.ref p)) ∧ H p = some (.lst vs) ∧ Reps W (muOf z.mu m ow) m H l vs ∧ i < ρ.length := by
  unfold ownAt at h
  cases e : ρ[i]? with
  | none => rw [e] at h; cases h
  | some sl =>
    rw [e] at h
    cases sl with
    | own l' =>
      cases h
      obtain ⟨p, vs, h1, h2, h3, h4⟩ := S.slot i _ e
      exact ⟨p, vs, h1, h2, h3, h4, (List.getElem?_eq_some_iff.mp e).1⟩
    | _ => cases h
/-- x.m(e): op the list's change -/
def evOwn (i : Nat) (op : List D → D → Option (List D)) (f : Env → M D) : Env → M Fl := fun ρ => (ofO (ownAt ρ i)).bind fun l => (f ρ).bind fun d => (ofO (op l d)).bind fun l' => M.pure (.nx (ρ.set i (.own l')))
structure OwnOk (X : Cx) (name : Str) (op : List D → D → Option (List D)) : Prop where
  ex : ∃ id, Slot "list" name id ∧ typeOf (.builtin id) = pure (.type "method_descriptor") ∧
    ∀ (pins : List (Addr × Obj)) (s : Shared) (σ : L2.St) (H : Hp) (W : Wd) (mu : Addr → Prop) (m : List Addr) (l l' : List D) (d : D) (p : Addr) (vs : List V) (x : V) (v : Value) (Q : VK), Inv X pins σ H s → RelV x v → (W.K = X.K ∧ W.w = X.w) → H p = some (.lst vs) → Reps W mu m H l vs → Rep W mu m H d x → op l d = some l' →
      (∀ vs', Reps W mu m H l' vs' → Q .non (upd H p (.lst vs'))) → wpAny (model X.prog X.w) X.A (call (.builtin id) [.ref p, v]) (EP X pins σ Q) X.xe s
theorem gs_own {name : Str} {op : List D → D → Option (List D)} (c : CtxOk X W) (ho : OwnOk X name op) (hN : X.N[i]? = some x) (hv : Vis X.env.scope x) (hd : (x == ("__debug__" : Str)) = false) (hcd : (x == ("__classdict__" : Str)) = false) (h : GE X W z Wx false e f) (hs : nst e = true)
    (hb : attributeBase (.Name x p1) name X.env (eval (.Name x p1) X.env) = eval (.Name x p1) X.env) (hl : (apos.endLine == cpos.line) = true) :
    GS X W z Wx (.Expr (.Call (.Attribute (.Name x p1) name apos) [e] [] cpos) pos) (evOwn i op f) :=
  ⟨fun pins s σ H D I ⟨m, ow, ρ, A, S, q⟩ => by
    obtain ⟨l, el, q⟩ := ofO_F q
    obtain ⟨p, vs, o1, o2, o3, o4, o5⟩ := own_at S el
    obtain ⟨id, slot, hty, hm⟩ := ho.ex
    refine wpAny_Expr_any ?_ I.quiet rfl
    refine wpAny_Call_method_late hb (by rw [nst_eq hs]; rfl) hl rfl (thn ((pe_var (pos := p1) hN hv hd hcd).run pins s σ H (fun v H1 => v = .ref p ∧ H1 = H) I ⟨_, o2, rfl, rfl⟩) fun v s1 ⟨y, H1, I1, r1, e1, e2⟩ => ?_)
    subst e1 e2
    cases r1
    obtain ⟨its, rv, pl, _⟩ := I1.list (SqL.of (K := X.K) o3)
    refine ⟨"list", id, PySem.F.plainAttrs_list, slot, hty, pl.isList.typeIs, fun a ea => ?_, ?_⟩
    · cases ea
      obtain ⟨o, n, e, _, hd, _⟩ := pl
      exact ⟨o, e, hd⟩
    have hA := (pa_cons h pa_nil (nst_eq hs)).run cpos pins s1 σ H1 (fun xs H2 => ∃ m2 A2 d y, xs = [y] ∧ SRel W z m2 ow ρ A2 σ H2 ∧ Sm m H1 m2 H2 ∧ Rep W (muOf z.mu m2 ow) m2 H2 d y ∧ OutF W z Wx m2 ow H2 D (((ofO (op l d)).bind fun l' => M.pure (.nx (ρ.set i (.own l')))) A2)) I1 ?_
    · rw [nst_eq hs] at hA ⊢
      refine Calls.callWith_builtin rfl (Calls.evalArgs_plain ?_)
      refine thn hA fun us s2 ⟨xs, H2, I2, r2, m2, A2, d, y, ex, S2, s12, rd, q2⟩ => ?_
      subst ex
      obtain ⟨u, rfl, ru⟩ := vals1 r2
      obtain ⟨l', eo, q3⟩ := ofO_F q2
      obtain ⟨p2, vs2, k1, k2, k3, k4, k5⟩ := own_at S2 el
      rw [o1] at k1
      cases k1
      refine wpAny_mono (hm pins s2 σ H2 W (muOf z.mu m2 ow) m2 l l' d p vs2 y u (fun _ H3 => D.nx σ H3) I2 ru ⟨c.1.symm, c.2.2.symm⟩ k3 k4 rd eo fun vs' r' => ?_) (fun v s3 ⟨x3, H3, I3, r3, q3⟩ => ⟨σ, H3, I3, q3⟩) fun _ _ z => z
      have hmu : muOf z.mu m2 ow p := .inr (.inr ⟨i, o1⟩)
      have le : Le (muOf z.mu m2 ow) H2 (muOf z.mu m2 ow) (upd H2 p (.lst vs')) := ⟨fun a u e n => by rw [upd_ne fun (q : a = p) => n (q ▸ hmu)]; exact e, fun _ _ _ n => n⟩
      exact q3 m2 ow σ _ ⟨le, ⟨[], by simp⟩⟩ (S2.upOwn o1 (fun _ z => by cases z) (fun _ _ z => by cases z) k5 ⟨p, vs', rfl, k2, upd_same, r'.mono le S2.ok ⟨[], by simp⟩⟩)
    · exact ts_then (fa := f) S q fun m2 H2 A2 d y s2 S2 r2 q2 => ⟨m2, A2, d, y, rfl, S2, s2, r2, q2⟩⟩
def opApp (l : List D) (d : D) : Option (List D) := if l.length < sizeLine then some (l ++ [d]) else none
theorem own_app : OwnOk X "append" opApp := ⟨"list.append", PySem.F.slot_list_append, PySem.F.type_list_append, fun pins s σ H W mu m l l' d p vs x v Q I rx c hp r rd ho q => by
  unfold opApp at ho
  split at ho <;> cases ho
  rename_i hz
  exact mt_append pins s σ H (.ref p) [x] (.ref p) [v] Q I rfl (.cons rx .nil) ⟨p, vs, x, rfl, rfl, hp, by rw [← r.length]; exact hz, q _ (r.append (Reps.one rd))⟩⟩
def opExt (l : List D) (d : D) : Option (List D) := match d with
  | .lst l2 => if l.length + l2.length ≤ sizeLine then some (l ++ l2) else none
  | _ => none
theorem own_ext : OwnOk X "extend" opExt := ⟨"list.extend", PySem.F.slot_list_extend, PySem.F.type_list_extend, fun pins s σ H W mu m l l' d p vs x v Q I rx c hp r rd ho q => by
  unfold opExt at ho
  split at ho <;> try cases ho
  split at ho <;> cases ho
  rename_i hz
  obtain ⟨p2, vs2, rfl, h1, h2⟩ := rd
  exact mt_extend pins s σ H (.ref p) [.ref p2] (.ref p) [v] Q I rfl (.cons rx .nil) ⟨p, p2, vs, vs2, rfl, rfl, hp, h1.1, by rw [← r.length, ← h2.length]; exact hz, q _ (r.append h2)⟩⟩
def opRem (l : List D) (d : D) : Option (List D) := if d.ok && l.all D.ok then (match l.findIdx? (fun z => eqD z d) with
  | some j => some (l.eraseIdx j)
  | none => none) else none
theorem findIdx_map {l : List D} {d : D} : (D.pys l).findIdx? (fun y => PyData.eqv y d.py) = l.findIdx? (fun z => eqD z d) := by
  rw [pys_map, List.findIdx?_map]
  rfl
theorem vals_erase : ∀ {xs : List V} {us : List Value} (j : Nat), Vals xs us → Vals (xs.eraseIdx j) (us.eraseIdx j)
  | _, _, _, .nil => .nil
  | _, _, 0, .cons _ t => t
  | _, _, j + 1, .cons h t => .cons h (vals_erase j t)
theorem own_rem (hu : X.A.units + 66 < cLine) : OwnOk X "remove" opRem := ⟨"list.remove", PySem.F.slot_list_remove, PySem.F.type_list_remove, fun pins s σ H W mu m l l' d p vs x v Q I rx c hp r rd ho q => by
  unfold opRem at ho
  split at ho <;> try cases ho
  rename_i hok
  split at ho <;> cases ho
  rename_i j hj
  obtain ⟨h1, h2⟩ := Bool.and_eq_true_iff.mp hok
  obtain ⟨c1, c2⟩ := all_lay h2
  obtain ⟨its, n, rits, ho', hz⟩ := I.lst hp
  obtain ⟨bs, q2⟩ := Dp.reads I d.py x v (by rw [← c.1]; exact rd.dp (ok_lay h1)) rx
  obtain ⟨as, q1⟩ := Dp.readsAll I (D.pys l) vs its (by rw [← c.1]; exact r.dp c1) rits
  have hj' : SeqAt.dataPlace (D.pys l) d.py = some j := by
    unfold SeqAt.dataPlace
    rw [findIdx_map]
    exact hj
  refine SeqAt.remove_list_data (vs := its.toArray) ⟨_, ho', rfl, n, rfl⟩ (by simpa using q1) q2 (PyData.plainAll_of_canLay0 _ c1) (PyData.plain_of_canLay0 _ (ok_lay h1)) (by omega) hj' (by rw [List.size_toArray, ← rits.length]; exact hz) ?_
  have re : Vals (vs.eraseIdx j) (its.eraseIdx j) := vals_erase j rits
  refine ⟨.non, _, I.lstUpd (ys := vs.eraseIdx j) (its' := its.eraseIdx j) hp ho' (by simp only [Obj.mapSeq, List.eraseIdxIfInBounds_toArray]; rfl) re (Nat.le_trans (List.length_eraseIdx_le ..) hz) s.toks, rfl, q _ (r.eraseIdx j)⟩⟩
end
end Ev
end
section
set_option maxHeartbeats 2000000
namespace Ev
open PySem PySem.Spec PyProof.Rows L2
/-! ### stores: names, elements, tuples of them -/
/-- a target, its keys' readings -/
inductive TQ where
  | nm (i : Nat) | sub (i : Nat) (f : Env → M D)
def evQ : TQ → D → Env → M Env
  | .nm i, d, ρ => ofO (setV (dropS ρ i) i d)
  | .sub i f, d, ρ => (grd (okSub ρ i)).bind fun _ => (calm (f ρ)).bind fun k => fun A => match setSub ρ A i k d with
    | some (ρ', A') => .ok ρ' A'
    | none => .stuck
def evQs : List TQ → List D → Env → M Env
  | [], [], ρ => M.pure ρ
  | t :: ts, d :: ds, ρ => (evQ t d ρ).bind fun ρ' => evQs ts ds ρ'
  | _, _, _ => stk
section
variable {X : Cx} {W : Wd} {z : En} {Wx : WX} {m m' : List Addr} {ow ow' : Ow} {ρ ρ' : Env} {A A' : AH} {σ : L2.St} {H H' : Hp} {i j : Nat} {Dn : Ends} {st : Stmt} {e e1 e2 o : Expr} {f f1 f2 : Env → M D} {es : List Expr} {pos pos' p1 p2 pt : Pos} {x y : Str} {te : TE}
/-- a store to a list's or a dict's element -/
def rSetO (X : Cx) : TSet := fun o i v H Q => rSetL o i v H Q ∨ ∃ (W : Wd) (mu : Addr → Prop) (m : List Addr) (p : Addr) (kvs : List (D × D)) (k d : D), o = .ref p ∧ W.K = X.K ∧ W.w = X.w ∧ DRd W mu m H p kvs ∧ okK k kvs = true ∧ kvs.length < sizeLine ∧ Rep W mu m H k i ∧ Rep W mu m H d v ∧
  ∀ es' : Array DictEntry × Nat, RepE W mu m H (putK k d kvs) es'.1.toList → Q (upd H p (DictO p es'))
theorem set_O (hu : X.A.units + 66 < cLine) : PSet X (rSetO X) := by
  intro pins s σ H o i v ov iv u Q I ro ri rv h
  rcases h with h | ⟨W, mu, m, p, kvs, k, d, rfl, eK, ew, dr, ok, hz, rk, rd, q⟩
  · exact set_list pins s σ H o i v ov iv u Q I ro ri rv h
  · cases (show ov = Value.ref p from ro)
    exact dd_setItem hu I eK ew dr ok hz rk ri rv rd fun es' s' I' r' => ⟨_, I', q es' r'⟩
/-- where a store leads -/
def OutT (W : Wd) (z : En) (m : List Addr) (ow : Ow) (H : Hp) (Q : L2.St → Hp → Prop) : R Env → Prop
  | .ok ρ' A' => ∀ m' ow' σ' H', Lt z m ow H m' ow' H' → SRel W z m' ow' ρ' A' σ' H' → Q σ' H'
  | _ => False
theorem OutT.later {Q : L2.St → Hp → Prop} {r : R Env} (h : OutT W z m ow H Q r) (s : Lt z m ow H m' ow' H') : OutT W z m' ow' H' Q r := by
  cases r with
  | ok ρ' A' => exact fun m2 ow2 σ2 H2 s2 => h m2 ow2 σ2 H2 (s.trans s2)
  | exc x A' => exact h
  | stuck => exact h
def TGq (W : Wd) (z : En) (t : TQ) : L2.TG := fun v σ H Q => ∃ m ow ρ A d, SRel W z m ow ρ A σ H ∧ Rep W (muOf z.mu m ow) m H d v ∧ OutT W z m ow H Q (evQ t d ρ A)
def TGqs (W : Wd) (z : En) (l : List TQ) : L2.TGs := fun vs σ H Q => ∃ m ow ρ A ds, SRel W z m ow ρ A σ H ∧ Reps W (muOf z.mu m ow) m H ds vs ∧ OutT W z m ow H Q (evQs l ds ρ A)
theorem gq_nm (hN : X.N.Nodup) (hi : X.N[i]? = some x) (hx : Loc X.env.scope x) (hf : X.fn x = true ∨ X.env.scope.names.lookup x = some .local) : PG X (.Name x pos) (TGq W z (.nm i)) :=
  pg_weak (pg_name hN hi hx hf) fun v σ H Q ⟨m, ow, ρ, A, d, S, r, q⟩ => by
    have q : OutT W z m ow H Q (ofO (setV (dropS ρ i) i d) A) := q
    cases e : setV (dropS ρ i) i d with
    | none => rw [e] at q; exact q.elim
    | some ρ' =>
      rw [e] at q
      exact q m _ _ H ⟨le_none, ⟨[], by simp⟩⟩ (S.drop.setv e (r.mono le_none S.ok ⟨[], by simp⟩))
theorem gqs_nil : PGs X [] (TGqs W z []) := pgs_weak pgs_nil fun v σ H Q ⟨m, ow, ρ, A, ds, S, r, q⟩ => by
  cases ds with
  | nil => cases r; exact ⟨rfl, q m ow σ H Lt.refl S⟩
  | cons d ds => exact q.elim
theorem gqs_cons {t : TQ} {ts : List TQ} (h : PG X e (TGq W z t)) (h2 : PGs X es (TGqs W z ts)) (hn : nst e = true) : PGs X (e :: es) (TGqs W z (t :: ts)) :=
  pgs_weak (pgs_cons h h2 (by rw [asg_eq hn]; rfl)) fun v σ H Q ⟨m, ow, ρ, A, ds, S, r, q⟩ => by
    cases ds with
    | nil => exact q.elim
    | cons d ds =>
      obtain ⟨v, vr, rfl, r1, r2⟩ := r
      have q : OutT W z m ow H Q (((evQ t d ρ).bind fun ρ' => evQs ts ds ρ') A) := q
      unfold M.bind at q
      refine ⟨v, vr, rfl, m, ow, ρ, A, d, S, r1, ?_⟩
      cases e1 : evQ t d ρ A with
      | ok ρ1 A1 =>
        rw [e1] at q
        exact fun m1 ow1 σ1 H1 l1 S1 => ⟨m1, ow1, ρ1, A1, ds, S1, r2.mono l1.le S.ok l1.pre, OutT.later q l1⟩
      | exc x A1 => rw [e1] at q; exact q.elim
      | stuck => rw [e1] at q; exact q.elim
theorem gq_sub (hu : X.A.units + 66 < cLine) (c : CtxOk X W) (hi : X.N[i]? = some x) (hv : Vis X.env.scope x) (hd : (x == ("__debug__" : Str)) = false) (hcd : (x == ("__classdict__" : Str)) = false) (hk : GE X W z F0 false e f)
    (ha : ∀ v, assign (.Subscript (.Name x p1) e pos) X.env v = (do
      let ov ← holding [v] (eval (.Name x p1) X.env)
      let iv ← holding [v, ov] (eval e X.env)
      standAt pos
      holding [v, ov, iv] (setItem ov iv v)
      release [v, ov, iv] [])) : PG X (.Subscript (.Name x p1) e pos) (TGq W z (.sub i f)) :=
  pg_weak (pg_sub (pe_var hi hv hd hcd) hk (set_O hu) ha) fun v σ H Q ⟨m, ow, ρ, A, d, S, r, q⟩ => by
    have q : OutT W z m ow H Q (((grd (okSub ρ i)).bind fun _ => (calm (f ρ)).bind fun k => fun A => match setSub ρ A i k d with
      | some (ρ', A') => .ok ρ' A'
      | none => .stuck) A) := q
    cases hg : okSub ρ i with
    | false => rw [hg] at q; exact q.elim
    | true =>
      rw [hg] at q
      have q : OutT W z m ow H Q (((calm (f ρ)).bind fun k => fun A => match setSub ρ A i k d with
        | some (ρ', A') => .ok ρ' A'
        | none => .stuck) A) := q
      unfold M.bind at q
      cases ec : calm (f ρ) A with
      | exc x A1 => rw [ec] at q; exact q.elim
      | stuck => rw [ec] at q; exact q.elim
      | ok k A1 =>
        rw [ec] at q
        dsimp only at q
        have ef := calm_ok ec
        cases es : setSub ρ A1 i k d with
        | none => rw [es] at q; exact q.elim
        | some pr =>
          obtain ⟨ρ', A'⟩ := pr
          rw [es] at q
          -- the slot
          unfold okSub at hg
          unfold setSub at es
          cases er : ρ[i]? with
          | none => rw [er] at hg; cases hg
          | some sl =>
            rw [er] at hg es
            have k0 := S.slot i sl er
            have hil : i < ρ.length := (List.getElem?_eq_some_iff.mp er).1
            cases sl with
            | no => cases hg
            | clo => cases hg
            | ownD l =>
              obtain ⟨p, ds, o1, o2, o3, kv, o4⟩ := k0
              dsimp only at es
              split at es
              · rename_i hok
                obtain ⟨ok, hz⟩ := Bool.and_eq_true_iff.mp hok
                have hz := of_decide_eq_true hz
                cases es
                refine ⟨_, o2, tg_ok S ef fun m1 H1 v1 s1 S1 r1 => ?_⟩
                obtain ⟨p', ds', k1, k2, k3, kv', k4⟩ := S1.slot i _ er
                rw [o1] at k1
                cases k1
                refine .inr ⟨W, muOf z.mu m1 ow, m1, p, l, k, d, rfl, c.1.symm, c.2.2.symm, ⟨ds', k3, kv', k4⟩, ok, hz, r1, Rep.mono s1.le S.ok s1.pre r, fun es' r' => ?_⟩
                have hmu : muOf z.mu m1 ow p := .inr (.inr ⟨i, o1⟩)
                have le : Le (muOf z.mu m1 ow) H1 (muOf z.mu m1 ow) (upd H1 p (DictO p es')) := ⟨fun a u e n => by rw [upd_ne fun (q : a = p) => n (q ▸ hmu)]; exact e, fun _ _ _ n => n⟩
                exact q m1 ow σ _ ⟨s1.le.trans le, s1.pre⟩ (S1.upOwn o1 (fun _ z => by cases z) (fun _ _ z => by cases z) hil ⟨p, es', rfl, k2, upd_same, kv'.put ok hz, r'.mono le S1.ok ⟨[], by simp⟩⟩)
              · cases es
            | own l =>
              obtain ⟨p, vs, o1, o2, o3, o4⟩ := k0
              refine ⟨_, o2, tg_ok S ef fun m1 H1 v1 s1 S1 r1 => ?_⟩
              obtain ⟨p', vs', k1, k2, k3, k4⟩ := S1.slot i _ er
              rw [o1] at k1
              cases k1
              cases k with
              | int n =>
                dsimp only at es
                cases ei : ixN l.length n with
                | none => rw [ei] at es; cases es
                | some jj =>
                  rw [ei] at es
                  cases es
                  have r1 : v1 = .int n := r1
                  subst r1
                  refine .inl ⟨p, vs', n, jj, rfl, rfl, k3, by rw [← k4.length]; exact ei, ?_⟩
                  have hmu : muOf z.mu m1 ow p := .inr (.inr ⟨i, o1⟩)
                  have le : Le (muOf z.mu m1 ow) H1 (muOf z.mu m1 ow) (upd H1 p (.lst (vs'.set jj v))) := ⟨fun a u e n => by rw [upd_ne fun (q : a = p) => n (q ▸ hmu)]; exact e, fun _ _ _ n => n⟩
                  have rr := k4.set jj (Rep.mono s1.le S.ok s1.pre r)
                  exact q m1 ow σ _ ⟨s1.le.trans le, s1.pre⟩ (S1.upOwn o1 (fun _ z => by cases z) (fun _ _ z => by cases z) hil ⟨p, _, rfl, k2, upd_same, rr.mono le S1.ok ⟨[], by simp⟩⟩)
              | _ => cases es
            | val d0 =>
              cases d0 with
              | ref rr =>
                obtain ⟨o1, v0, o2, p, e0, hm⟩ := k0
                subst e0
                refine ⟨_, o2, tg_ok S ef fun m1 H1 v1 s1 S1 r1 => ?_⟩
                have hm1 : m1[rr]? = some p := by
                  obtain ⟨t, rfl⟩ := s1.pre
                  rw [List.getElem?_append_left (List.getElem?_eq_some_iff.mp hm).1]
                  exact hm
                dsimp only at es
                cases ea : A1[rr]? with
                | none => rw [ea] at es; cases es
                | some ao =>
                  rw [ea] at es
                  have k2 := S1.hp.obj rr p ao hm1 ea
                  cases ao with
                  | lst l =>
                    obtain ⟨vs', k3, k4⟩ := k2
                    cases k with
                    | int n =>
                      dsimp only at es
                      cases ei : ixN l.length n with
                      | none => rw [ei] at es; cases es
                      | some jj =>
                        rw [ei] at es
                        cases es
                        have r1 : v1 = .int n := r1
                        subst r1
                        refine .inl ⟨p, vs', n, jj, rfl, rfl, k3, by rw [← k4.length]; exact ei, ?_⟩
                        have hmu : muOf z.mu m1 ow p := .inr (.inl (List.mem_of_getElem? hm1))
                        have le : Le (muOf z.mu m1 ow) H1 (muOf z.mu m1 ow) (upd H1 p (.lst (vs'.set jj v))) := ⟨fun a u e n => by rw [upd_ne fun (q : a = p) => n (q ▸ hmu)]; exact e, fun _ _ _ n => n⟩
                        have rr' := k4.set jj (Rep.mono s1.le S.ok s1.pre r)
                        obtain ⟨S2, _⟩ := S1.upHeap (ao := .lst (l.set jj d)) (o := .lst (vs'.set jj v)) hm1 (fun _ z => by cases z) (fun _ _ z => by cases z) ⟨_, upd_same, rr'.mono le S1.ok ⟨[], by simp⟩⟩ (fun q' e' => by rw [ea] at e'; cases e')
                        exact q m1 ow σ _ ⟨s1.le.trans le, s1.pre⟩ S2
                    | _ => cases es
                  | _ => cases es
              | _ => cases hg
/-- a tuple of targets -/
def evTas (l : List TQ) : D → Env → M Env
  | .tup ds, ρ => evQs l ds ρ
  | _, _ => stk
theorem gq_tup {k : Nat} {l : List TQ} (c : CtxOk X W) (hc : X.calm = true) (h : PGs X es (TGqs W z l)) (hn : nsts es = true) (hl : es.length = l.length) :
    PG X (.Tuple es k pos) (fun v σ H Q => ∃ m ow ρ A d, SRel W z m ow ρ A σ H ∧ Rep W (muOf z.mu m ow) m H d v ∧ OutT W z m ow H Q (evTas l d ρ A)) :=
  pg_weak (pg_tup (n := es.length) hc h (asg_len hn).1 (asg_len hn).2) fun v σ H Q ⟨m, ow, ρ, A, d, S, r, q⟩ => by
    cases d <;> first | (exact q.elim) | skip
    rename_i ds
    obtain ⟨p, vs, rfl, h1, h2⟩ := r
    have hd : ds.length = l.length := by
      have gen : ∀ (l : List TQ) (ds : List D) (ρ : Env) (A : AH), evQs l ds ρ A ≠ .stuck → ds.length = l.length ∨ ∃ x A', evQs l ds ρ A = .exc x A' := by
        intro l
        induction l with
        | nil => intro ds ρ A h; cases ds with
          | nil => exact .inl rfl
          | cons d ds => exact absurd rfl h
        | cons t l ih => intro ds ρ A h; cases ds with
          | nil => exact absurd rfl h
          | cons d ds =>
            have e : evQs (t :: l) (d :: ds) ρ A = ((evQ t d ρ).bind fun ρ' => evQs l ds ρ') A := rfl
            rw [e] at h ⊢
            unfold M.bind at h ⊢
            cases e1 : evQ t d ρ A with
            | ok ρ1 A1 =>
              rw [e1] at h
              rcases ih ds ρ1 A1 h with h | h
              · exact .inl (by simp [h])
              · exact .inr h
            | exc x A1 => exact .inr ⟨_, _, rfl⟩
            | stuck => rw [e1] at h; exact absurd rfl h
      have q : OutT W z m ow H Q (evQs l ds ρ A) := q
      rcases gen l ds ρ A (fun e => by rw [e] at q; exact q) with h | ⟨x, A', e⟩
      · exact h
      · rw [e] at q; exact q.elim
    exact ⟨p, vs, rfl, by rw [c.1]; exact h1.t, by rw [← h2.length, hd, hl], m, ow, ρ, A, ds, S, h2, q⟩
def evAsg (t : D → Env → M Env) (f : Env → M D) : Env → M Fl := fun ρ => (f ρ).bind fun d => (calm (t d ρ)).bind fun ρ' => M.pure (.nx ρ')
/-- target = e -/
theorem gs_asg {tg : Expr} {t : D → Env → M Env} (he : GE X W z Wx false e f) (hg : PG X tg (fun v σ H Q => ∃ m ow ρ A d, SRel W z m ow ρ A σ H ∧ Rep W (muOf z.mu m ow) m H d v ∧ OutT W z m ow H Q (t d ρ A)))
    (hs : swapsWithSole [tg] e pos.line X.env = pure false) (hw : swappedStores [tg] e X.env = pure none) (h1 : (assignEach [tg] X.env).map (·.2) = [assign tg X.env]) : GS X W z Wx (.Assign [tg] e pos) (evAsg t f) :=
  ps_weak (ps_asg he hg hs hw h1) fun D σ H ⟨m, ow, ρ, A, S, q⟩ => ts_then (fa := f) S q fun m1 H1 A1 d v s1 S1 r1 q1 => by
    refine ⟨m1, ow, ρ, A1, d, S1, r1, ?_⟩
    unfold M.bind at q1
    cases e : t d ρ A1 with
    | ok ρ' A' =>
      have ec : calm (t d ρ) A1 = .ok ρ' A' := by unfold calm; rw [e]
      rw [ec] at q1
      exact q1
    | exc x A' =>
      have ec : calm (t d ρ) A1 = .stuck := by unfold calm; rw [e]
      rw [ec] at q1
      exact q1.elim
    | stuck =>
      have ec : calm (t d ρ) A1 = .stuck := by unfold calm; rw [e]
      rw [ec] at q1
      exact q1.elim
/-! ### a, b = x, y -/
def evPar (i j : Nat) (f1 f2 : Env → M D) : Env → M Fl := fun ρ => (f1 ρ).bind fun a => (f2 ρ).bind fun b => (ofO (setV (dropS ρ i) i a)).bind fun ρ1 => (ofO (setV (dropS ρ1 j) j b)).bind fun ρ2 => M.pure (.nx ρ2)
theorem gs_par {kt k2 : Nat} {pt2 : Pos} {px py : Pos} (hc : X.calm = true) (hN : X.N.Nodup) (hi : X.N[i]? = some x) (hj : X.N[j]? = some y) (hij : i ≠ j) (hx : X.env.scope.names.lookup x = some .local) (hy : X.env.scope.names.lookup y = some .local)
    (h1 : GE X W z Wx false e1 f1) (h2 : GE X W z Wx false e2 f2) (n1 : nst e1 = true) (n2 : nst e2 = true)
    (hw : swappedStores [.Tuple [.Name x px, .Name y py] kt pt] (.Tuple [e1, e2] k2 pt2) X.env = pure (some [x, y])) :
    GS X W z Wx (.Assign [.Tuple [.Name x px, .Name y py] kt pt] (.Tuple [e1, e2] k2 pt2) pos) (evPar i j f1 f2) :=
  ps_weak (ps_par hc hN hi hj hij hx hy (pa_cons h1 (pa_cons h2 pa_nil (nst_eq n2)) (nst_eq n1)) hw rfl) fun D σ H ⟨m, ow, ρ, A, S, q⟩ =>
    ts_then (fa := f1) S q fun m1 H1 A1 a v s1 S1 r1 q1 => ts_then (fa := f2) S1 q1 fun m2 H2 A2 b u s2 S2 r2 q2 => by
      obtain ⟨ρ1, eρ1, q3⟩ := ofO_F q2
      obtain ⟨ρ2, eρ2, q4⟩ := ofO_F q3
      refine ⟨v, u, rfl, ?_⟩
      have Sa := S2.drop.setv eρ1 (Rep.mono le_none S2.ok ⟨[], by simp⟩ (Rep.mono s2.le S1.ok s2.pre r1))
      have rb : Rep W (muOf z.mu m2 (owSet (owSet ow i none) j none)) m2 H2 b u := Rep.mono (le_none.trans le_none) S2.ok ⟨[], by simp⟩ r2
      exact q4 m2 _ _ H2 ⟨le_none.trans le_none, ⟨[], by simp⟩⟩ (Sa.drop.setv eρ2 rb)
end
end Ev
end
section
set_option maxHeartbeats 2000000
namespace Ev
open PySem PySem.Spec PyProof.Rows L2
/-! ### a, b, c = x, y, z: some of them new lists -/
def En.adds : En → List Addr → En
  | z, [] => z
  | z, p :: ps => (z.add p).adds ps
theorem En.adds_mu : ∀ {ps : List Addr} {z : En} {q : Addr}, (z.adds ps).mu q ↔ z.mu q ∨ q ∈ ps
  | [], z, q => by simp [En.adds]
  | p :: ps, z, q => by
    show ((z.add p).adds ps).mu q ↔ _
    rw [En.adds_mu]
    show ((z.mu q ∨ q = p) ∨ q ∈ ps) ↔ _
    rw [List.mem_cons, or_assoc]
theorem En.adds_H : ∀ {ps : List Addr} {z : En}, (z.adds ps).H = z.H ∧ (z.adds ps).m = z.m
  | [], _ => ⟨rfl, rfl⟩
  | p :: ps, z => by
    obtain ⟨a, b⟩ := En.adds_H (ps := ps) (z := z.add p)
    exact ⟨a, b⟩
theorem En.adds_comm {ps : List Addr} {z : En} {p : Addr} : (z.add p).adds ps = (z.adds ps).add p := by
  obtain ⟨a1, a2⟩ := En.adds_H (ps := ps) (z := z.add p)
  obtain ⟨b1, b2⟩ := En.adds_H (ps := ps) (z := z)
  have e : ((z.add p).adds ps).mu = ((z.adds ps).add p).mu := by
    funext q
    refine propext ?_
    rw [En.adds_mu]
    show ((z.mu q ∨ q = p) ∨ q ∈ ps) ↔ ((z.adds ps).mu q ∨ q = p)
    rw [En.adds_mu, or_assoc, or_assoc, or_comm (a := q = p)]
  generalize (z.add p).adds ps = u at *
  obtain ⟨u1, u2, u3⟩ := u
  simp only at a1 a2 e
  subst a1 a2 e
  show (⟨_, z.H, z.m⟩ : En) = ⟨_, (z.adds ps).H, (z.adds ps).m⟩
  rw [b1, b2]
  rfl
abbrev PFl := List (Bool × (Env → M D))
abbrev isLstD : D → Bool := isNw
def evPs : PFl → Env → M (List D)
  | [], _ => M.pure []
  | (b, f) :: r, ρ => (f ρ).bind fun d => (grd (!b || isLstD d)).bind fun _ => (evPs r ρ).bind fun t => M.pure (d :: t)
def setPs : List (Bool × Nat) → List D → Env → Option Env
  | [], [], ρ => some ρ
  | (b, i) :: r, d :: ds, ρ => match (if b then newV (dropS ρ i) i d else setV (dropS ρ i) i d) with
    | some ρ' => setPs r ds ρ'
    | none => none
  | _, _, _ => none
/-- the values: a flagged one is a new list that nobody knows -/
inductive PR (W : Wd) (mu : Addr → Prop) (m : List Addr) (H : Hp) : List Bool → List D → List V → List Addr → Prop where
  | nil : PR W mu m H [] [] [] []
  | val {bs ds vs ps d v} : Rep W mu m H d v → PR W mu m H bs ds vs ps → PR W mu m H (false :: bs) (d :: ds) (v :: vs) ps
  | new {bs ds vs ps d p} : NwR W mu m H p d → p ∉ m → PR W mu m H bs ds vs ps → PR W mu m H (true :: bs) (d :: ds) (.ref p :: vs) (p :: ps)
theorem PR.same {W : Wd} {mu mu' : Addr → Prop} {m : List Addr} {H : Hp} (l : Le mu H mu' H) (ok : MuOk mu H) : ∀ {bs ds vs ps}, PR W mu m H bs ds vs ps → PR W mu' m H bs ds vs ps
  | _, _, _, _, .nil => .nil
  | _, _, _, _, .val r t => .val (r.mono l ok ⟨[], by simp⟩) (t.same l ok)
  | _, _, _, _, .new r n t => .new (r.mono l ok ⟨[], by simp⟩ fun o e => e) n (t.same l ok)
theorem PR.len {W : Wd} {mu : Addr → Prop} {m : List Addr} {H : Hp} : ∀ {bs ds vs ps}, PR W mu m H bs ds vs ps → bs.length = vs.length
  | _, _, _, _, .nil => rfl
  | _, _, _, _, .val _ t => by simp [t.len]
  | _, _, _, _, .new _ _ t => by simp [t.len]
section
variable {X : Cx} {W : Wd} {z : En} {Wx : WX} {m m' : List Addr} {ow ow' : Ow} {ρ ρ' : Env} {A A' : AH} {σ : L2.St} {H H' : Hp}
def OutP (W : Wd) (z : En) (Wx : WX) (bs : List Bool) (m : List Addr) (ow : Ow) (ρ : Env) (σ : L2.St) (H : Hp) (Q : List V → Hp → Prop) : R (List D) → Prop
  | .ok ds A' => ∀ m' H' vs ps, Sm m H m' H' → SRel W (z.adds ps) m' ow ρ A' σ H' → (∀ p ∈ ps, H p = none) → ps.Nodup → PR W (muOf (z.adds ps).mu m' ow) m' H' bs ds vs ps → Q vs H'
  | .exc x A' => ∀ m' H' cls dd, Sm m H m' H' → SRel W z m' ow ρ A' σ H' → ExR W (muOf z.mu m' ow) m' H' x cls dd → Wx cls dd σ H'
  | .stuck => False
def TP (W : Wd) (z : En) (Wx : WX) (fs : PFl) : TA := fun σ H Q => ∃ m ow ρ A, SRel W z m ow ρ A σ H ∧ OutP W z Wx (fs.map (·.1)) m ow ρ σ H Q (evPs fs ρ A)
theorem le_adds {ps : List Addr} (s : Sm m H m' H') (fr : ∀ p ∈ ps, H p = none) : Le (muOf z.mu m ow) H (muOf (z.adds ps).mu m' ow) H' := ⟨fun a o e n => s.keep a o e fun q => n (.inr (.inl q)), fun a o e n q => by
  rcases q with q | q | q
  · rw [En.adds_mu] at q
    rcases q with q | q
    · exact n (.inl q)
    · have := fr a q
      rw [e] at this
      cases this
  · have := s.new a q fun y => n (.inr (.inl y))
    rw [e] at this
    cases this
  · exact n (.inr (.inr q))⟩
theorem Sm.none (s : Sm m H m' H') {p : Addr} (h : H' p = none) : H p = none := by
  cases e : H p with
  | none => rfl
  | some o =>
    obtain ⟨o', h'⟩ := s.live p o e
    rw [h] at h'
    cases h'
theorem exR_le {mu mu' : Addr → Prop} {x : Ex} {cls : Value} {dd : Option Addr} (l : Le mu H mu' H) (ok : MuOk mu H) (h : ExR W mu m H x cls dd) : ExR W mu' m H x cls dd := by
  obtain ⟨C, h1, h2, h3⟩ := h
  refine ⟨C, h1, h2, ?_⟩
  rcases h3 with h3 | ⟨d, vs, h4, h5, h6⟩
  · exact .inl h3
  · refine .inr ⟨d, vs, h4, h5, ?_⟩
    clear h5
    generalize x.fs = fs at h6
    induction fs generalizing vs with
    | nil => exact h6
    | cons q fs ih =>
      obtain ⟨q1, q2⟩ := q
      obtain ⟨v, t, e1, e2, e3⟩ := h6
      exact ⟨v, t, e1, e2.mono l ok ⟨[], by simp⟩, ih t e3⟩
/-- how the values come -/
inductive PEs (X : Cx) (W : Wd) (Wx : WX) : List Expr → PFl → Prop where
  | nil : PEs X W Wx [] []
  | val {e es f fs} : (∀ z, GE X W z Wx false e f) → nst e = true → PEs X W Wx es fs → PEs X W Wx (e :: es) ((false, f) :: fs)
  | new {e es f fs} : (∀ z, PE X e (TN W z Wx f)) → nst e = true → PEs X W Wx es fs → PEs X W Wx (e :: es) ((true, f) :: fs)
theorem PEs.nsts : ∀ {es fs}, PEs X W Wx es fs → nsts es = true
  | _, _, .nil => rfl
  | _, _, .val _ n t => by show (nst _ && Ev.nsts _) = true; rw [n, t.nsts]; rfl
  | _, _, .new _ n t => by show (nst _ && Ev.nsts _) = true; rw [n, t.nsts]; rfl
theorem pa_ps : ∀ {es fs}, PEs X W Wx es fs → ∀ z, PA X es (TP W z Wx fs)
  | _, _, .nil, z => pa_weak pa_nil fun σ H Q ⟨m, ow, ρ, A, S, q⟩ => q m H [] [] (Sm.refl m H) S (fun _ h => by cases h) .nil .nil
  | _, _, .val (f := f) (fs := fs) h n t, z => by
    refine pa_weak (pa_cons (h z) (pa_ps t z) (nst_eq n)) fun σ H Q ⟨m, ow, ρ, A, S, q⟩ => ⟨m, ow, ρ, A, S, ?_⟩
    unfold evPs at q
    unfold M.bind at q
    cases e : f ρ A with
    | ok d A1 =>
      rw [e] at q
      intro m1 H1 v s1 S1 r1
      refine ⟨m1, ow, ρ, A1, S1, ?_⟩
      have q : OutP W z Wx (false :: fs.map (·.1)) m ow ρ σ H Q (((evPs fs ρ).bind fun t => M.pure (d :: t)) A1) := q
      unfold M.bind at q
      cases e2 : evPs fs ρ A1 with
      | ok ds A2 =>
        rw [e2] at q
        exact fun m2 H2 vs ps s2 S2 fr nd pr => q m2 H2 (v :: vs) ps (s1.trans s2) S2 (fun p hp => s1.none (fr p hp)) nd (.val (Rep.mono (le_adds s2 fr) S1.ok s2.pre r1) pr)
      | exc x A2 =>
        rw [e2] at q
        exact fun m2 H2 c dd s2 => q m2 H2 c dd (s1.trans s2)
      | stuck => rw [e2] at q; exact q.elim
    | exc x A1 => rw [e] at q; exact q
    | stuck => rw [e] at q; exact q.elim
  | _, _, .new (f := f) (fs := fs) h n t, z => by
    refine pa_weak (t := tCons (TN W z Wx f) (fun σ H Q => ∃ p, TP W (z.add p) Wx fs σ H Q)) (pa_cons (h z) ⟨fun pos pins s σ H Q I ⟨p, hp⟩ => (pa_ps t (z.add p)).run pos pins s σ H Q I hp⟩ (nst_eq n)) fun σ H Q ⟨m, ow, ρ, A, S, q⟩ => ⟨m, ow, ρ, A, S, ?_⟩
    unfold evPs at q
    unfold M.bind at q
    cases e : f ρ A with
    | ok d A1 =>
      rw [e] at q
      cases hd : isNw d with
      | false =>
        have q : OutP W z Wx (true :: fs.map (·.1)) m ow ρ σ H Q (((grd (!true || isLstD d)).bind fun _ => (evPs fs ρ).bind fun t => M.pure (d :: t)) A1) := q
        rw [show (!true || isLstD d) = false from hd] at q
        exact q.elim
      | true =>
        refine ⟨hd, fun m1 H1 p s1 hp S1 nm r => ?_⟩
        refine ⟨p, m1, ow, ρ, A1, S1, ?_⟩
        have q : OutP W z Wx (true :: fs.map (·.1)) m ow ρ σ H Q (((grd (!true || isLstD d)).bind fun _ => (evPs fs ρ).bind fun t => M.pure (d :: t)) A1) := q
        rw [show (!true || isLstD d) = true from hd] at q
        have q : OutP W z Wx (true :: fs.map (·.1)) m ow ρ σ H Q (((evPs fs ρ).bind fun t => M.pure (d :: t)) A1) := q
        unfold M.bind at q
        cases e2 : evPs fs ρ A1 with
        | ok ds A2 =>
          rw [e2] at q
          intro m2 H2 vs ps s2 S2 fr nd pr
          obtain ⟨o, hv, _⟩ := r.at
          refine q m2 H2 (.ref p :: vs) (p :: ps) (s1.trans s2) S2 (fun a ha => ?_) (List.nodup_cons.mpr ⟨fun hm => ?_, nd⟩) (.new (r.mono (le_adds s2 fr) S1.ok s2.pre fun o e => s2.keep p o e nm) (fun hm => ?_) pr)
          · rcases List.mem_cons.mp ha with rfl | ha
            · exact hp
            · exact s1.none (fr a ha)
          · have := fr p hm
            rw [hv] at this
            cases this
          · have := s2.new p hm nm
            rw [hv] at this
            cases this
        | exc x A2 =>
          rw [e2] at q
          intro m2 H2 c dd s2 S2 rx
          exact q m2 H2 c dd (s1.trans s2) (S.step (s1.trans s2) S2.hpBack) (exR_le Le.back S2.ok rx)
        | stuck => rw [e2] at q; exact q.elim
    | exc x A1 => rw [e] at q; exact q
    | stuck => rw [e] at q; exact q.elim
/-- the stores -/
def stL : L2.St → List Nat → List V → L2.St
  | σ, i :: is, v :: vs => stL (σ.set i (some v)) is vs
  | σ, _, _ => σ
theorem le_own {p : Addr} {i : Nat} : Le (muOf (z.add p).mu m ow) H (muOf z.mu m (owSet (owSet ow i none) i (some p))) H := ⟨fun _ _ e _ => e, fun a o e n q => by
  rcases q with q | q | ⟨j, q⟩
  · exact n (.inl (.inl q))
  · exact n (.inr (.inl q))
  · unfold owSet at q
    split at q
    · cases q
      exact n (.inl (.inr rfl))
    · exact n (.inr (.inr ⟨j, q⟩))⟩
theorem ps_store : ∀ {ts : List (Bool × Nat)} {ds : List D} {vs : List V} {ps : List Addr} {ow : Ow} {ρ ρ' : Env} {σ : L2.St}, SRel W (z.adds ps) m ow ρ A σ H → PR W (muOf (z.adds ps).mu m ow) m H (ts.map (·.1)) ds vs ps → ps.Nodup → (∀ p ∈ ps, z.H p = none ∧ ¬ z.mu p) → setPs ts ds ρ = some ρ' →
    ∃ ow', SRel W z m ow' ρ' A (stL σ (ts.map (·.2)) vs) H ∧ Le (muOf (z.adds ps).mu m ow) H (muOf z.mu m ow') H
  | [], ds, vs, ps, ow, ρ, ρ', σ, S, r, nd, fr, e => by
    cases r
    cases e
    exact ⟨ow, S, Le.refl _ _⟩
  | (b, i) :: ts, ds, vs, ps, ow, ρ, ρ', σ, S, r, nd, fr, e => by
    cases b with
    | false =>
      cases r with
      | val r1 rt =>
        rename_i ds vs d v
        have e : (match setV (dropS ρ i) i d with
          | some ρ' => setPs ts ds ρ'
          | none => none) = some ρ' := e
        cases es : setV (dropS ρ i) i d with
        | none => rw [es] at e; cases e
        | some ρ1 =>
          rw [es] at e
          have S1 := (S.drop (i := i)).setv es (r1.mono le_none S.ok ⟨[], by simp⟩)
          obtain ⟨ow', S', l'⟩ := ps_store S1 (rt.same le_none S.ok) nd fr e
          exact ⟨ow', S', le_none.trans l'⟩
    | true =>
      cases r with
      | new r1 nm rt =>
        rename_i ds vs ps d p
        have e : (match newV (dropS ρ i) i d with
          | some ρ' => setPs ts ds ρ'
          | none => none) = some ρ' := e
        cases eN : newV (dropS ρ i) i d with
        | none => rw [eN] at e; cases e
        | some ρ1 =>
          rw [eN] at e
          obtain ⟨hi, rfl, _⟩ := newV_some eN
          obtain ⟨n1, n2⟩ := List.nodup_cons.mp nd
          obtain ⟨f1, f2⟩ := fr p (by simp)
          have ec : z.adds (p :: ps) = (z.adds ps).add p := En.adds_comm
          rw [ec] at S r1 rt ⊢
          have S1 := S.take (i := i) (by rw [(En.adds_H (ps := ps) (z := z)).1]; exact f1) (fun q => by
            rw [En.adds_mu] at q
            rcases q with q | q
            · exact f2 q
            · exact n1 q) nm r1 (by unfold dropS at hi; simpa using hi)
          obtain ⟨ow', S', l'⟩ := ps_store S1 (rt.same le_own S.ok) n2 (fun q hq => fr q (List.mem_cons_of_mem _ hq)) e
          exact ⟨ow', S', le_own.trans l'⟩
def evParX (ts : List (Bool × Nat)) (fs : PFl) : Env → M Fl := fun ρ => (evPs fs ρ).bind fun ds => (ofO (setPs ts ds ρ)).bind fun ρ' => M.pure (.nx ρ')
/-- what then holds -/
theorem parX_w {ts : List (Bool × Nat)} {fs : PFl} {Dn : Ends} (hb : fs.map (·.1) = ts.map (·.1)) (h : TSt W z Wx (evParX ts fs) Dn σ H) : TP W z Wx fs σ H fun vs H1 => vs.length = ts.length ∧ Dn.nx (stL σ (ts.map (·.2)) vs) H1 := by
  obtain ⟨m, ow, ρ, A, S, q⟩ := h
  refine ⟨m, ow, ρ, A, S, ?_⟩
  unfold evParX M.bind at q
  cases e : evPs fs ρ A with
  | ok ds A' =>
    rw [e] at q
    intro m' H' vs ps s S' fr nd pr
    have q : OutF W z Wx m ow H Dn ((ofO (setPs ts ds ρ)).bind (fun ρ' => M.pure (.nx ρ')) A') := q
    obtain ⟨ρ', es, q⟩ := ofO_F q
    have fz : ∀ p ∈ ps, z.H p = none ∧ ¬ z.mu p := fun p hp => S.fr (fr p hp)
    rw [hb] at pr
    obtain ⟨ow', S2, l2⟩ := ps_store S' pr nd fz es
    exact ⟨by rw [← pr.len, List.length_map], q m' ow' _ H' ⟨(le_adds s fr).trans l2, s.pre⟩ S2⟩
  | exc x A' =>
    rw [e] at q
    exact fun m' H' c dd s S' rx => q m' ow ρ σ H' c dd s.lt S' rx
  | stuck => rw [e] at q; exact q.elim
theorem gs_parX2 {b1 b2 : Bool} {i j : Nat} {x y : Str} {a b : Expr} {fs : PFl} {kt k2 : Nat} {px py pt pt2 pos : Pos} (hc : X.calm = true) (hN : X.N.Nodup) (hi : X.N[i]? = some x) (hj : X.N[j]? = some y) (hij : i ≠ j) (hx : X.env.scope.names.lookup x = some .local) (hy : X.env.scope.names.lookup y = some .local)
    (h : PEs X W Wx [a, b] fs) (hb : fs.map (·.1) = [b1, b2]) (hw : swappedStores [.Tuple [.Name x px, .Name y py] kt pt] (.Tuple [a, b] k2 pt2) X.env = pure (some [x, y])) :
    GS X W z Wx (.Assign [.Tuple [.Name x px, .Name y py] kt pt] (.Tuple [a, b] k2 pt2) pos) (evParX [(b1, i), (b2, j)] fs) :=
  ps_weak (ps_par hc hN hi hj hij hx hy (pa_ps h z) hw rfl) fun D σ H q => by
    obtain ⟨m, ow, ρ, A, S, o⟩ := parX_w (ts := [(b1, i), (b2, j)]) hb q
    refine ⟨m, ow, ρ, A, S, ?_⟩
    cases e : evPs fs ρ A with
    | ok ds A' =>
      rw [e] at o
      intro m' H' vs ps s S' fr nd pr
      obtain ⟨hl, hd⟩ := o m' H' vs ps s S' fr nd pr
      match vs, hl with
      | [u, v], _ => exact ⟨u, v, rfl, hd⟩
    | exc x A' => rw [e] at o; exact o
    | stuck => rw [e] at o; exact o.elim
theorem gs_parX3 {b1 b2 b3 : Bool} {i j l : Nat} {x y w : Str} {a b c : Expr} {fs : PFl} {kt k2 : Nat} {px py pz pt pt2 pos : Pos} (hc : X.calm = true) (hN : X.N.Nodup) (hi : X.N[i]? = some x) (hj : X.N[j]? = some y) (hl : X.N[l]? = some w) (hij : i ≠ j) (hil : i ≠ l) (hjl : j ≠ l)
    (hx : X.env.scope.names.lookup x = some .local) (hy : X.env.scope.names.lookup y = some .local) (hz : X.env.scope.names.lookup w = some .local)
    (h : PEs X W Wx [a, b, c] fs) (hb : fs.map (·.1) = [b1, b2, b3]) (hw : swappedStores [.Tuple [.Name x px, .Name y py, .Name w pz] kt pt] (.Tuple [a, b, c] k2 pt2) X.env = pure (some [x, y, w])) :
    GS X W z Wx (.Assign [.Tuple [.Name x px, .Name y py, .Name w pz] kt pt] (.Tuple [a, b, c] k2 pt2) pos) (evParX [(b1, i), (b2, j), (b3, l)] fs) :=
  ps_weak (ps_par3 hc hN hi hj hl hij hil hjl hx hy hz (pa_ps h z) hw rfl) fun D σ H q => by
    obtain ⟨m, ow, ρ, A, S, o⟩ := parX_w (ts := [(b1, i), (b2, j), (b3, l)]) hb q
    refine ⟨m, ow, ρ, A, S, ?_⟩
    cases e : evPs fs ρ A with
    | ok ds A' =>
      rw [e] at o
      intro m' H' vs ps s S' fr nd pr
      obtain ⟨hl, hd⟩ := o m' H' vs ps s S' fr nd pr
      match vs, hl with
      | [u, v, w], _ => exact ⟨u, v, w, rfl, hd⟩
    | exc x A' => rw [e] at o; exact o
    | stuck => rw [e] at o; exact o.elim
/-- .. with the tuple made: names that a comprehension shares -/
def gSt (is : List Nat) : L2.TGs := fun vs σ H Q => vs.length = is.length ∧ Q (stL σ is vs) H
/-- names of the def -/
def NmsR (X : Cx) : List Expr → List Nat → Prop
  | [], [] => True
  | e :: es, i :: is => (∃ x p, e = Expr.Name x p ∧ X.N[i]? = some x ∧ Loc X.env.scope x ∧ (X.fn x = true ∨ X.env.scope.names.lookup x = some .local)) ∧ NmsR X es is
  | _, _ => False
theorem NmsR.len : ∀ {es : List Expr} {is : List Nat}, NmsR X es is → es.length = is.length
  | [], [], _ => rfl
  | [], _ :: _, h => h.elim
  | _ :: _, [], h => h.elim
  | e :: es, i :: is, h => by simp [NmsR.len h.2]
theorem pgs_st (hN : X.N.Nodup) : ∀ {es : List Expr} {is : List Nat}, NmsR X es is → PGs X es (gSt is)
  | [], [], _ => pgs_weak pgs_nil fun vs σ H Q ⟨a, b⟩ => by
    cases vs with
    | nil => exact ⟨rfl, b⟩
    | cons v vs => cases a
  | [], _ :: _, h => h.elim
  | _ :: _, [], h => h.elim
  | e :: es, i :: is, ⟨h, t⟩ => by
    obtain ⟨x, p, rfl, h1, h2, h3⟩ := h
    refine pgs_weak (pgs_cons (pg_name hN h1 h2 h3) (pgs_st hN t) rfl) fun vs σ H Q ⟨a, b⟩ => ?_
    cases vs with
    | nil => cases a
    | cons v vs => exact ⟨v, vs, rfl, by simpa using a, b⟩
theorem parXT_w {ts : List (Bool × Nat)} {fs : PFl} {Dn : Ends} (c : CtxOk X W) (hl : ts.length ≤ sizeLine) (hb : fs.map (·.1) = ts.map (·.1)) (h : TSt W z Wx (evParX ts fs) Dn σ H) : tTupN (TP W z Wx fs) σ H fun x H1 => gTup X.K ts.length (gSt (ts.map (·.2))) x σ H1 Dn.nx := by
  obtain ⟨m, ow, ρ, A, S, q⟩ := h
  refine ⟨m, ow, ρ, A, S, ?_⟩
  unfold evParX M.bind at q
  cases e : evPs fs ρ A with
  | ok ds A' =>
    rw [e] at q
    intro m' H' vs ps s S' fr nd pr
    have q : OutF W z Wx m ow H Dn ((ofO (setPs ts ds ρ)).bind (fun ρ' => M.pure (.nx ρ')) A') := q
    obtain ⟨ρ', es, q⟩ := ofO_F q
    have fz : ∀ p ∈ ps, z.H p = none ∧ ¬ z.mu p := fun p hp => S.fr (fr p hp)
    rw [hb] at pr
    have hvl : vs.length = ts.length := by rw [← pr.len, List.length_map]
    obtain ⟨ow', S2, l2⟩ := ps_store S' pr nd fz es
    refine ⟨by rw [hvl]; exact hl, fun p o hp ho => ⟨p, vs, rfl, ?_, hvl, by rw [hvl, List.length_map], ?_⟩⟩
    · have : SqD W.K (upd H' p (.frz o (.tup vs))) p vs := by
        first | exact ⟨o, upd_same, ho⟩ | exact .inl ⟨o, upd_same, ho⟩ | exact .inr ⟨o, upd_same, ho⟩
      rw [c.1]
      exact this.t
    · have S3 := S2.laid (o := .frz o (.tup vs)) hp
      have s3 : Sm m' H' m' (upd H' p (.frz o (.tup vs))) := Sm.laid hp
      exact q m' ow' _ _ ⟨((le_adds s fr).trans l2).trans s3.le, s.pre⟩ S3
  | exc x A' =>
    rw [e] at q
    exact fun m' H' c dd s S' rx => q m' ow ρ σ H' c dd s.lt S' rx
  | stuck => rw [e] at q; exact q.elim
theorem gs_parXT {ts : List (Bool × Nat)} {tgs vs : List Expr} {fs : PFl} {kt k2 : Nat} {pt pt2 pos : Pos} (c : CtxOk X W) (hc : X.calm = true) (hN : X.N.Nodup) (hl : ts.length ≤ sizeLine)
    (hg : NmsR X tgs (ts.map (·.2))) (hn : nsts tgs = true)
    (h : PEs X W Wx vs fs) (hb : fs.map (·.1) = ts.map (·.1)) (hs : swapsWithSole [.Tuple tgs kt pt] (.Tuple vs k2 pt2) pos.line X.env = pure false) (hw : swappedStores [.Tuple tgs kt pt] (.Tuple vs k2 pt2) X.env = pure none) (h1 : (assignEach [.Tuple tgs kt pt] X.env).map (·.2) = [assign (.Tuple tgs kt pt) X.env]) :
    GS X W z Wx (.Assign [.Tuple tgs kt pt] (.Tuple vs k2 pt2) pos) (evParX ts fs) := by
  have el : tgs.length = ts.length := by
    have := hg.len
    rw [this, List.length_map]
  exact ps_weak (ps_asg (pe_tupN (pa_ps h z)) (pg_tup (n := ts.length) hc (pgs_st hN hg) (by rw [(asg_len hn).1, el]) (asg_len hn).2) hs hw h1) fun D σ H q => parXT_w c hl hb q
end
end Ev
end
section
set_option maxHeartbeats 2000000
namespace Ev
open PySem PySem.Spec PyProof.Rows L2
/-! ### a list on the abstract heap changes by a method -/
section
variable {X : Cx} {W : Wd} {z : En} {Wx : WX} {m m' : List Addr} {ow ow' : Ow} {ρ ρ' : Env} {A A' : AH} {σ : L2.St} {H H' : Hp} {i j : Nat} {Dn : Ends} {st : Stmt} {e e1 e2 o : Expr} {f f1 f2 : Env → M D} {es : List Expr} {pos pos' p1 p2 pt apos cpos : Pos} {x y : Str} {te : TE}
def refAt (ρ : Env) (i : Nat) : Option Nat := match ρ[i]? with
  | some (.val (.ref r)) => some r
  | _ => none
def opRef (op : List D → D → Option (List D)) (ρ : Env) (r : Nat) (d : D) : M Fl := fun A => match A[r]? with
  | some (.lst l) => (match op l d with
    | some l' => .ok (.nx ρ) (A.set r (.lst l'))
    | none => .stuck)
  | _ => .stuck
def okRef (r : Nat) : M Unit := fun A => match A[r]? with
  | some (.lst _) => .ok () A
  | _ => .stuck
def evRef (i : Nat) (op : List D → D → Option (List D)) (f : Env → M D) : Env → M Fl := fun ρ => (ofO (refAt ρ i)).bind fun r => (okRef r).bind fun _ => (f ρ).bind fun d => opRef op ρ r d
theorem ref_at (S : SRel W z m ow ρ A σ H) {r : Nat} (h : refAt ρ i = some r) : ∃ p, m[r]? = some p ∧ σ[i]? = some (some (.ref p)) := by
  unfold refAt at h
  cases e : ρ[i]? with
  | none => rw [e] at h; cases h
  | some sl =>
    rw [e] at h
    cases sl with
    | val d =>
      cases d with
      | ref r' =>
        cases h
        obtain ⟨o1, v0, o2, p, e0, hm⟩ := S.slot i _ e
        subst e0
        exact ⟨p, hm, o2⟩
      | _ => cases h
    | _ => cases h
theorem gs_ref {name : Str} {op : List D → D → Option (List D)} (c : CtxOk X W) (ho : OwnOk X name op) (hN : X.N[i]? = some x) (hv : Vis X.env.scope x) (hd : (x == ("__debug__" : Str)) = false) (hcd : (x == ("__classdict__" : Str)) = false) (h : GE X W z Wx false e f) (hs : nst e = true)
    (hb : attributeBase (.Name x p1) name X.env (eval (.Name x p1) X.env) = eval (.Name x p1) X.env) (hl : (apos.endLine == cpos.line) = true) :
    GS X W z Wx (.Expr (.Call (.Attribute (.Name x p1) name apos) [e] [] cpos) pos) (evRef i op f) :=
  ⟨fun pins s σ H D I ⟨m, ow, ρ, A, S, q⟩ => by
    obtain ⟨r, el, q⟩ := ofO_F q
    obtain ⟨p, o1, o2⟩ := ref_at S el
    obtain ⟨id, slot, hty, hm⟩ := ho.ex
    -- it is a list
    have q0 := q
    unfold M.bind at q0
    unfold okRef at q0
    obtain ⟨l0, e0⟩ : ∃ l, A[r]? = some (.lst l) := by
      cases e : A[r]? with
      | none => rw [e] at q0; exact q0.elim
      | some ao =>
        rw [e] at q0
        cases ao with
        | lst l => exact ⟨l, rfl⟩
        | _ => exact q0.elim
    rw [e0] at q0
    dsimp only at q0
    obtain ⟨vs, o3, _⟩ := S.hp.obj r p _ o1 e0
    replace q := q0
    refine wpAny_Expr_any ?_ I.quiet rfl
    refine wpAny_Call_method_late hb (by rw [nst_eq hs]; rfl) hl rfl (thn ((pe_var (pos := p1) hN hv hd hcd).run pins s σ H (fun v H1 => v = .ref p ∧ H1 = H) I ⟨_, o2, rfl, rfl⟩) fun v s1 ⟨y, H1, I1, r1, e1, e2⟩ => ?_)
    subst e1 e2
    cases r1
    obtain ⟨its, rv, pl, _⟩ := I1.list (SqL.of (K := X.K) o3)
    refine ⟨"list", id, PySem.F.plainAttrs_list, slot, hty, pl.isList.typeIs, fun a ea => ?_, ?_⟩
    · cases ea
      obtain ⟨o, n, e, _, hd, _⟩ := pl
      exact ⟨o, e, hd⟩
    have hA := (pa_cons h pa_nil (nst_eq hs)).run cpos pins s1 σ H1 (fun xs H2 => ∃ m2 A2 d y, xs = [y] ∧ SRel W z m2 ow ρ A2 σ H2 ∧ Sm m H1 m2 H2 ∧ Rep W (muOf z.mu m2 ow) m2 H2 d y ∧ OutF W z Wx m2 ow H2 D (opRef op ρ r d A2)) I1 ?_
    · rw [nst_eq hs] at hA ⊢
      refine Calls.callWith_builtin rfl (Calls.evalArgs_plain ?_)
      refine thn hA fun us s2 ⟨xs, H2, I2, r2, m2, A2, d, y, ex, S2, s12, rd, q2⟩ => ?_
      subst ex
      obtain ⟨u, rfl, ru⟩ := vals1 r2
      have hm2 : m2[r]? = some p := by
        obtain ⟨t, rfl⟩ := s12.pre
        rw [List.getElem?_append_left (List.getElem?_eq_some_iff.mp o1).1]
        exact o1
      unfold opRef at q2
      cases ea : A2[r]? with
      | none => rw [ea] at q2; exact q2.elim
      | some ao =>
        rw [ea] at q2
        cases ao with
        | lst l =>
          dsimp only at q2
          cases eo : op l d with
          | none => rw [eo] at q2; exact q2.elim
          | some l' =>
            rw [eo] at q2
            obtain ⟨vs2, k3, k4⟩ := S2.hp.obj r p _ hm2 ea
            refine wpAny_mono (hm pins s2 σ H2 W (muOf z.mu m2 ow) m2 l l' d p vs2 y u (fun _ H3 => D.nx σ H3) I2 ru ⟨c.1.symm, c.2.2.symm⟩ k3 k4 rd eo fun vs' r' => ?_) (fun v s3 ⟨x3, H3, I3, r3, q3⟩ => ⟨σ, H3, I3, q3⟩) fun _ _ z => z
            have hmu : muOf z.mu m2 ow p := .inr (.inl (List.mem_of_getElem? hm2))
            have le : Le (muOf z.mu m2 ow) H2 (muOf z.mu m2 ow) (upd H2 p (.lst vs')) := ⟨fun a u e n => by rw [upd_ne fun (q : a = p) => n (q ▸ hmu)]; exact e, fun _ _ _ n => n⟩
            obtain ⟨S3, _⟩ := S2.upHeap (ao := .lst l') (o := .lst vs') hm2 (fun _ z => by cases z) (fun _ _ z => by cases z) ⟨_, upd_same, r'.mono le S2.ok ⟨[], by simp⟩⟩ (fun q' e' => by rw [ea] at e'; cases e')
            exact q2 m2 ow σ _ ⟨le, ⟨[], by simp⟩⟩ S3
        | _ => exact q2.elim
    · exact ts_then (fa := f) S q fun m2 H2 A2 d y s2 S2 r2 q2 => ⟨m2, A2, d, y, rfl, S2, s2, r2, q2⟩⟩
end
end Ev
end
section
set_option maxHeartbeats 2000000
namespace Ev
open PySem PySem.Spec PyProof.Rows L2
/-! ### a world with another closure -/
abbrev Wd.wc (W : Wd) (c : Option (Addr × En)) : Wd := { W with cl := c }
section
variable {W : Wd} {c : Option (Addr × En)} {mu : Addr → Prop} {m : List Addr} {H : Hp}
mutual
theorem rep_wc : ∀ (d : D) (v : V), Rep (W.wc c) mu m H d v ↔ Rep W mu m H d v
  | .non, _ => Iff.rfl
  | .bl _, _ => Iff.rfl
  | .int _, _ => Iff.rfl
  | .str _, _ => Iff.rfl
  | .ref _, _ => Iff.rfl
  | .fn _, _ => Iff.rfl
  | .tup ds, v => ⟨fun ⟨p, vs, e, h, r⟩ => ⟨p, vs, e, h, (reps_wc ds vs).mp r⟩, fun ⟨p, vs, e, h, r⟩ => ⟨p, vs, e, h, (reps_wc ds vs).mpr r⟩⟩
  | .lst ds, v => ⟨fun ⟨p, vs, e, h, r⟩ => ⟨p, vs, e, h, (reps_wc ds vs).mp r⟩, fun ⟨p, vs, e, h, r⟩ => ⟨p, vs, e, h, (reps_wc ds vs).mpr r⟩⟩
  | .flst ds, v => ⟨fun ⟨p, vs, e, h, r⟩ => ⟨p, vs, e, h, (reps_wc ds vs).mp r⟩, fun ⟨p, vs, e, h, r⟩ => ⟨p, vs, e, h, (reps_wc ds vs).mpr r⟩⟩
  | .dct kvs, v => ⟨fun ⟨p, es, e, h, n, k, r⟩ => ⟨p, es, e, h, n, k, (repE_wc kvs _).mp r⟩, fun ⟨p, es, e, h, n, k, r⟩ => ⟨p, es, e, h, n, k, (repE_wc kvs _).mpr r⟩⟩
theorem reps_wc : ∀ (ds : List D) (vs : List V), Reps (W.wc c) mu m H ds vs ↔ Reps W mu m H ds vs
  | [], _ => Iff.rfl
  | d :: ds, vs => ⟨fun ⟨v, r, e, h, t⟩ => ⟨v, r, e, (rep_wc d v).mp h, (reps_wc ds r).mp t⟩, fun ⟨v, r, e, h, t⟩ => ⟨v, r, e, (rep_wc d v).mpr h, (reps_wc ds r).mpr t⟩⟩
theorem repE_wc : ∀ (kvs : List (D × D)) (es : List DictEntry), RepE (W.wc c) mu m H kvs es ↔ RepE W mu m H kvs es
  | [], _ => Iff.rfl
  | (k, d) :: r, es => ⟨fun ⟨e, er, x, y, h0, h1, h2, h3, h4, h5, h6⟩ => ⟨e, er, x, y, h0, h1, (rep_wc k x).mp h2, h3, h4, (rep_wc d y).mp h5, (repE_wc r er).mp h6⟩,
    fun ⟨e, er, x, y, h0, h1, h2, h3, h4, h5, h6⟩ => ⟨e, er, x, y, h0, h1, (rep_wc k x).mpr h2, h3, h4, (rep_wc d y).mpr h5, (repE_wc r er).mpr h6⟩⟩
end
theorem aoR_wc {p : Addr} : ∀ (o : AO), AoR (W.wc c) mu m H p o ↔ AoR W mu m H p o
  | .lst l => ⟨fun ⟨vs, h, r⟩ => ⟨vs, h, (reps_wc l vs).mp r⟩, fun ⟨vs, h, r⟩ => ⟨vs, h, (reps_wc l vs).mpr r⟩⟩
  | .dct l => ⟨fun ⟨es, h, k, r⟩ => ⟨es, h, k, (repE_wc l _).mp r⟩, fun ⟨es, h, k, r⟩ => ⟨es, h, k, (repE_wc l _).mpr r⟩⟩
  | .ins _ _ => Iff.rfl
  | .tab _ => Iff.rfl
theorem hrel_wc {A : AH} : HRel (W.wc c) mu m A H ↔ HRel W mu m A H :=
  ⟨fun h => ⟨h.len, h.inj, fun i p o a b => (aoR_wc o).mp (h.obj i p o a b), h.tb⟩, fun h => ⟨h.len, h.inj, fun i p o a b => (aoR_wc o).mpr (h.obj i p o a b), h.tb⟩⟩
theorem fsR_wc : ∀ (l : List (Str × D)) (vs : List (Str × V)), FsR (W.wc c) mu m H l vs ↔ FsR W mu m H l vs
  | [], _ => Iff.rfl
  | (f, d) :: r, vs => ⟨fun ⟨v, t, e, h, q⟩ => ⟨v, t, e, (rep_wc d v).mp h, (fsR_wc r t).mp q⟩, fun ⟨v, t, e, h, q⟩ => ⟨v, t, e, (rep_wc d v).mpr h, (fsR_wc r t).mpr q⟩⟩
theorem exR_wc {x : Ex} {cls : Value} {dd : Option Addr} : ExR (W.wc c) mu m H x cls dd ↔ ExR W mu m H x cls dd := by
  constructor
  · rintro ⟨C, h1, h2, h3⟩
    refine ⟨C, h1, h2, ?_⟩
    rcases h3 with h | ⟨d, vs, a, b, q⟩
    · exact .inl h
    · exact .inr ⟨d, vs, a, b, (fsR_wc _ _).mp q⟩
  · rintro ⟨C, h1, h2, h3⟩
    refine ⟨C, h1, h2, ?_⟩
    rcases h3 with h | ⟨d, vs, a, b, q⟩
    · exact .inl h
    · exact .inr ⟨d, vs, a, b, (fsR_wc _ _).mpr q⟩
end
section
variable {W : Wd} {tb : List (Addr × Str)} {mu : Addr → Prop} {m : List Addr} {H : Hp}
abbrev Wd.wt (W : Wd) (tb : List (Addr × Str)) : Wd := { W with tabs := tb }
mutual
theorem rep_tb : ∀ (d : D) (v : V), Rep (W.wt tb) mu m H d v ↔ Rep W mu m H d v
  | .non, _ => Iff.rfl
  | .bl _, _ => Iff.rfl
  | .int _, _ => Iff.rfl
  | .str _, _ => Iff.rfl
  | .ref _, _ => Iff.rfl
  | .fn _, _ => Iff.rfl
  | .tup ds, v => ⟨fun ⟨p, vs, e, h, r⟩ => ⟨p, vs, e, h, (reps_tb ds vs).mp r⟩, fun ⟨p, vs, e, h, r⟩ => ⟨p, vs, e, h, (reps_tb ds vs).mpr r⟩⟩
  | .lst ds, v => ⟨fun ⟨p, vs, e, h, r⟩ => ⟨p, vs, e, h, (reps_tb ds vs).mp r⟩, fun ⟨p, vs, e, h, r⟩ => ⟨p, vs, e, h, (reps_tb ds vs).mpr r⟩⟩
  | .flst ds, v => ⟨fun ⟨p, vs, e, h, r⟩ => ⟨p, vs, e, h, (reps_tb ds vs).mp r⟩, fun ⟨p, vs, e, h, r⟩ => ⟨p, vs, e, h, (reps_tb ds vs).mpr r⟩⟩
  | .dct kvs, v => ⟨fun ⟨p, es, e, h, n, k, r⟩ => ⟨p, es, e, h, n, k, (repE_tb kvs _).mp r⟩, fun ⟨p, es, e, h, n, k, r⟩ => ⟨p, es, e, h, n, k, (repE_tb kvs _).mpr r⟩⟩
theorem reps_tb : ∀ (ds : List D) (vs : List V), Reps (W.wt tb) mu m H ds vs ↔ Reps W mu m H ds vs
  | [], _ => Iff.rfl
  | d :: ds, vs => ⟨fun ⟨v, r, e, h, t⟩ => ⟨v, r, e, (rep_tb d v).mp h, (reps_tb ds r).mp t⟩, fun ⟨v, r, e, h, t⟩ => ⟨v, r, e, (rep_tb d v).mpr h, (reps_tb ds r).mpr t⟩⟩
theorem repE_tb : ∀ (kvs : List (D × D)) (es : List DictEntry), RepE (W.wt tb) mu m H kvs es ↔ RepE W mu m H kvs es
  | [], _ => Iff.rfl
  | (k, d) :: r, es => ⟨fun ⟨e, er, x, y, h0, h1, h2, h3, h4, h5, h6⟩ => ⟨e, er, x, y, h0, h1, (rep_tb k x).mp h2, h3, h4, (rep_tb d y).mp h5, (repE_tb r er).mp h6⟩,
    fun ⟨e, er, x, y, h0, h1, h2, h3, h4, h5, h6⟩ => ⟨e, er, x, y, h0, h1, (rep_tb k x).mpr h2, h3, h4, (rep_tb d y).mpr h5, (repE_tb r er).mpr h6⟩⟩
end
end
theorem rep_same {W W' : Wd} {mu : Addr → Prop} {m : List Addr} {H : Hp} (e1 : W'.K = W.K) (e2 : W'.mg = W.mg) (e3 : W'.w = W.w) (d : D) (v : V) : Rep W' mu m H d v ↔ Rep W mu m H d v := by
  obtain ⟨w, K, mg, cl, tb⟩ := W
  obtain ⟨w', K', mg', cl', tb'⟩ := W'
  cases e1
  cases e2
  cases e3
  have a := @rep_wc ⟨w, K, mg, cl, tb⟩ cl' mu m H d v
  have b : ∀ (d : D) (v : V), Rep ⟨w, K, mg, cl', tb'⟩ mu m H d v ↔ Rep ⟨w, K, mg, cl', tb⟩ mu m H d v := fun d v => rep_tb (W := ⟨w, K, mg, cl', tb⟩) (tb := tb') d v
  exact (b d v).trans a
/-! ### a lambda with parameters -/
structure LamP (sc scope : Scope) (ps : List Str) : Prop where
  kind : scope.kind = .function
  co : scope.isCoroutine = false
  gen : scope.isGenerator = false
  nocell : ∀ y ∈ scope.names, y.2 ≠ .cell
  own : ∀ y ∈ scope.names, y.2 = .local → y.1 ∈ ps
  par : ∀ x ∈ ps, scope.names.lookup x = some .local
  free : ∀ y ∈ scope.names, y.2 = .free → sc.names.lookup y.1 = some .cell ∨ sc.names.lookup y.1 = some .free
def lamPB (sc scope : Scope) (ps : List Str) : Bool :=
  (match scope.kind with | .function => true | _ => false) && !scope.isCoroutine && !scope.isGenerator && ps.all (fun x => decide (scope.names.lookup x = some .local)) &&
  scope.names.all fun y => !decide (y.2 = .cell) && (!decide (y.2 = .local) || decide (y.1 ∈ ps)) && (!decide (y.2 = .free) || (decide (sc.names.lookup y.1 = some .cell) || decide (sc.names.lookup y.1 = some .free)))
theorem lamP_by {sc scope : Scope} {ps : List Str} (h : lamPB sc scope ps = true) : LamP sc scope ps := by
  unfold lamPB at h
  obtain ⟨h, h5⟩ := Bool.and_eq_true_iff.mp h
  obtain ⟨h, h4⟩ := Bool.and_eq_true_iff.mp h
  obtain ⟨h, h3⟩ := Bool.and_eq_true_iff.mp h
  obtain ⟨h1, h2⟩ := Bool.and_eq_true_iff.mp h
  have key := List.all_eq_true.mp h5
  refine ⟨?_, by simpa using h2, by simpa using h3, fun y hy => ?_, fun y hy e => ?_, fun x hx => ?_, fun y hy e => ?_⟩
  · revert h1
    cases scope.kind <;> intro h1 <;> first | rfl | cases h1
  · have := key y hy
    simp only [Bool.and_eq_true, Bool.not_eq_true', decide_eq_false_iff_not] at this
    exact this.1.1
  · have := key y hy
    simp only [Bool.and_eq_true, Bool.or_eq_true, Bool.not_eq_true', decide_eq_false_iff_not, decide_eq_true_eq] at this
    rcases this.1.2 with z | z
    · exact absurd e z
    · exact z
  · have := List.all_eq_true.mp h4 x hx
    simpa using this
  · have := key y hy
    simp only [Bool.and_eq_true, Bool.or_eq_true, Bool.not_eq_true', decide_eq_false_iff_not, decide_eq_true_eq] at this
    rcases this.2 with z | z
    · exact absurd e z
    · exact z
theorem LamP.has {X : Cx} {scope : Scope} {ps : List Str} (L : LamP X.env.scope scope ps) (ok : X.Ok) : ∀ y ∈ scope.names, y.2 = .free → ∃ c, X.env.cells.lookup y.1 = some c := fun y hy e =>
  ok.has _ (L.free y hy e)
/-- places of parameters -/
def setL : L2.St → List Nat → List V → L2.St
  | σ, i :: is, v :: vs => (setL σ is vs).set i (some v)
  | σ, _, _ => σ
theorem setL_len {σ : L2.St} : ∀ {is : List Nat} {vs : List V}, (setL σ is vs).length = σ.length
  | [], _ => rfl
  | _ :: _, [] => rfl
  | _ :: is, _ :: vs => by simp [setL, setL_len (is := is)]
theorem setL_ne {σ : L2.St} {j : Nat} : ∀ {is : List Nat} {vs : List V}, j ∉ is → (setL σ is vs)[j]? = σ[j]?
  | [], _, _ => rfl
  | _ :: _, [], _ => rfl
  | i :: is, _ :: vs, h => by
    rw [List.mem_cons, not_or] at h
    show ((setL σ is vs).set i _)[j]? = _
    rw [List.getElem?_set_ne (fun e => h.1 e.symm)]
    exact setL_ne h.2
theorem setL_at {σ : L2.St} {j k : Nat} {v : V} : ∀ {is : List Nat} {vs : List V}, is.Nodup → is[k]? = some j → vs[k]? = some v → j < σ.length → (setL σ is vs)[j]? = some (some v)
  | [], _, _, h, _, _ => by simp at h
  | _ :: _, [], _, _, h, _ => by simp at h
  | i :: is, w :: vs, nd, h1, h2, hl => by
    show ((setL σ is vs).set i _)[j]? = _
    cases k with
    | zero =>
      cases h1
      cases h2
      rw [List.getElem?_set_self (by rw [setL_len]; exact hl)]
    | succ k =>
      have h1 : is[k]? = some j := by simpa using h1
      have h2 : vs[k]? = some v := by simpa using h2
      obtain ⟨n1, n2⟩ := List.nodup_cons.mp nd
      rw [List.getElem?_set_ne fun (e : i = j) => n1 (by rw [e]; exact List.mem_of_getElem? h1)]
      exact setL_at n2 h1 h2 hl
/-- the environment of the body -/
def valO : Env → Env := fun ρ => ρ.map fun s => match s with
  | .val d => .val d
  | _ => .no
def setR : Env → List Nat → List D → Env
  | ρ, i :: is, d :: ds => (setR ρ is ds).set i (.val d)
  | ρ, _, _ => ρ
theorem setR_len {ρ : Env} : ∀ {is : List Nat} {ds : List D}, (setR ρ is ds).length = ρ.length
  | [], _ => rfl
  | _ :: _, [] => rfl
  | _ :: is, _ :: vs => by simp [setR, setR_len (is := is)]
theorem nd_at {α : Type} {l : List α} {i j : Nat} {x : α} (hn : l.Nodup) (e1 : l[i]? = some x) (e2 : l[j]? = some x) : i = j := by
  obtain ⟨hi, ei⟩ := List.getElem?_eq_some_iff.mp e1
  obtain ⟨hj, ej⟩ := List.getElem?_eq_some_iff.mp e2
  rcases Nat.lt_trichotomy i j with c | c | c
  · exact absurd (ei.trans ej.symm) (List.pairwise_iff_getElem.mp hn i j hi hj c)
  · exact c
  · exact absurd (ej.trans ei.symm) (List.pairwise_iff_getElem.mp hn j i hj hi c)
/-- where the parameters stand -/
structure OwnP (N ps : List Str) (own : List Nat) : Prop where
  nd : own.Nodup
  np : ps.Nodup
  len : own.length = ps.length
  at_ : ∀ (j i : Nat) (y : Str), own[j]? = some i → ps[j]? = some y → N[i]? = some y
def ownPB (N ps : List Str) (own : List Nat) : Bool := decide own.Nodup && decide ps.Nodup && decide (own.length = ps.length) && (own.zip ps).all fun q => decide (N[q.1]? = some q.2)
theorem ownP_by {N ps : List Str} {own : List Nat} (h : ownPB N ps own = true) : OwnP N ps own := by
  unfold ownPB at h
  simp only [Bool.and_eq_true, decide_eq_true_eq, List.all_eq_true] at h
  obtain ⟨⟨⟨h1, h2⟩, h3⟩, h4⟩ := h
  refine ⟨h1, h2, h3, fun j i y e1 e2 => h4 (i, y) (List.mem_of_getElem? (i := j) ?_)⟩
  rw [List.getElem?_zip_eq_some]
  exact ⟨e1, e2⟩

section
variable {X : Cx} {pins : List (Addr × Obj)} {σ : L2.St} {H HZ : Hp} {s s1 : Shared}
/-- the start of the body -/
theorem lam_startP {A : Around} {outer : List PySem.Env} {E : XK} {scope : Scope} {f c' : Addr} {h₁ : Heap} {tk : Nat} {ps : List Str} {own : List Nat} {vs : List V} {us : List Value} (I : Inv X pins σ H s) (L : LamP X.env.scope scope ps) (hN : X.N.Nodup) (O : OwnP X.N ps own)
    (r : Vals vs us) (hl : vs.length = ps.length) (e0 : Env0 X.prog X.w X.K X.mg X.base A outer s1 HZ) (hd : A.handled = none) (un : Un (frs X.stack) [] H HZ s.heap s1.heap)
    (hns : h₁.Ns s1.heap.objs.size fun y => (ps.zip us).reverse.lookup y) (kp : ∀ b o, s1.heap.get? b = some o → h₁.get? b = some o) : Inv (LamX.lamCx X A outer s1 HZ E scope f c') [] (setL σ own vs) HZ { s1 with heap := h₁, toks := tk } := by
  have hfree := L.has I.ok
  have up : ∀ {y c}, (cloFrom X.env.cells scope.names []).lookup y = some c → X.env.cells.lookup y = some c := by
    intro y c e
    rcases cloFrom_mem (PySem.mem_of_lookup e) with hm | ⟨h1, h2⟩
    · cases hm
    · obtain ⟨c1, hc⟩ := hfree _ h1 rfl
      have hc : X.env.cells.lookup y = some c1 := hc
      obtain rfl : c = c1 := by rw [h2, hc] <;> rfl
      exact hc
  have inC : ∀ {y}, scope.names.lookup y = some .free → ∃ c, (cloFrom X.env.cells scope.names []).lookup y = some c := fun {y} hl =>
    mem_lookup (cloFrom_has (cells := X.env.cells) (acc := []) (show (y, NameKind.free) ∈ scope.names from PySem.mem_of_lookup hl))
  have isC : ∀ {c : Addr} {v : Option Value}, H c = none → s.heap.IsCell c v → h₁.IsCell c v := by
    rintro c v n ⟨o, ho, hd⟩
    obtain ⟨sl, q⟩ := un.any ho n (by simp)
    exact ⟨_, kp _ _ q, hd⟩
  have noex : ∀ b : Addr, b ∉ (LamX.lamCx X A outer s1 HZ E scope f c').ex := fun b z => by
    have z : b ∈ ([] : List Addr) := z
    simp at z
  have ok : (LamX.lamCx X A outer s1 HZ E scope f c').Ok := by
    refine ⟨e0.mod, L.kind, rfl, rfl, Nat.le_refl _, fun y z c e1 e2 => I.ok.inj y z c (up e1) (up e2), fun y hy => ?_, fun y c z _ => ?_, fun _ => hd, Around.frames_deeper e0.frames, .inr ⟨rfl, rfl⟩, fun b z => absurd z (noex b), e0.bs, e0.bsz, fun b _ _ => noex b,
      fun b z => absurd z (noex b), e0.funs, e0.frf⟩
    · have hy : scope.names.lookup y = some .cell ∨ scope.names.lookup y = some .free := hy
      rcases hy with hy | hy
      · exact (L.nocell _ (PySem.mem_of_lookup hy) rfl).elim
      · exact inC hy
    · exact Bool.noConfusion (show false = true from z)
  refine ⟨ok, rfl, e0.bare, Un.kept kp, ⟨_, hns, fun i y v e1 e2 e3 => ?_⟩, fun y c e => ?_, e0.hok.fresh (Nat.le_refl _), fun y c e => ?_, fun q hq => ?_, e0.hok.kept kp, by rw [setL_len]; exact I.len⟩
  · have e1 : X.N[i]? = some y := e1
    have e3 : Vis scope y := e3
    have il : i < σ.length := by rw [I.len]; exact (List.getElem?_eq_some_iff.mp e1).1
    rcases e3 with k | k | k
    · -- a parameter
      obtain ⟨j, hj⟩ := List.mem_iff_getElem?.mp (L.own _ (PySem.mem_of_lookup k) rfl)
      have hj : ps[j]? = some y := hj
      have jl : j < ps.length := (List.getElem?_eq_some_iff.mp hj).1
      have jw : j < own.length := by rw [O.len]; exact jl
      have jo : own[j]? = some own[j] := List.getElem?_eq_getElem jw
      have ei : own[j] = i := by
        have q := O.at_ j _ y jo hj
        exact nd_at hN q e1
      rw [ei] at jo
      have jv : vs[j]? = some vs[j] := List.getElem?_eq_getElem (by rw [hl]; exact jl)
      rw [setL_at O.nd jo jv il] at e2
      cases e2
      obtain ⟨u, hu, rv⟩ := r.get jv
      exact ⟨u, rv, .inl ⟨k, NdefX.zip_look O.np hj hu⟩⟩
    · exact (L.nocell _ (PySem.mem_of_lookup k) rfl).elim
    · -- a captured name
      have no : i ∉ own := fun z => by
        obtain ⟨j, hj⟩ := List.mem_iff_getElem?.mp z
        have jl : j < ps.length := by rw [← O.len]; exact (List.getElem?_eq_some_iff.mp hj).1
        have q := O.at_ j i ps[j] hj (List.getElem?_eq_getElem jl)
        rw [e1] at q
        have k2 := L.par ps[j] (List.getElem_mem jl)
        rw [← Option.some.inj q, k] at k2
        cases k2
      rw [setL_ne no] at e2
      obtain ⟨m, hn, hlk⟩ := I.loc
      have fr := L.free _ (PySem.mem_of_lookup k) rfl
      obtain ⟨u, rv, q⟩ := hlk i y v e1 e2 (fr.elim (fun k => .inr (.inl k)) fun k => .inr (.inr k))
      obtain ⟨c2, h2⟩ := inC k
      refine ⟨u, rv, .inr ⟨.inr k, c2, h2, ?_⟩⟩
      have c1 := up h2
      rcases q with ⟨k', _⟩ | ⟨_, c3, e', z⟩
      · have k' : X.env.scope.names.lookup y = some .local := k'
        rcases fr with k2 | k2 <;> rw [show X.env.scope.names.lookup y = _ from k2] at k' <;> cases k'
      · rw [c1] at e'
        cases e'
        exact isC (I.freeC y _ c1) z
  · obtain ⟨u, z⟩ := I.cell y c (up e)
    exact ⟨u, isC (I.freeC y c (up e)) z⟩
  · obtain ⟨v, o, ho, hd⟩ := I.cell y c (up e)
    exact un.free c o ho (I.freeC y c (up e)) (by simp)
  · have hq : q ∈ ([] : List (Addr × Obj)) ++ [] := hq
    simp at hq
end
/-! ### the making of a lambda -/
section
variable {X : Cx} {pins : List (Addr × Obj)} {σ : L2.St} {H : Hp} {s : Shared} {mu : Addr → Prop}
theorem mk_lam {c P : Addr} {params : Arguments} {body : Expr} {scope : Scope} {pos : Pos} {ps : List Str} {q : Str} {E : Value → Shared → Prop} {Q : Value → Shared → Prop} (I : Inv X pins σ H s) (B : LamX.TabB X.base X.mg c P) (hcode : X.env.code = .ref c) (hq : q = X.env.qual ++ "<lambda>")
    (T : TabR mu H P q) (hmu : ∀ a, H a = none → ¬ mu a) (hdef : defaultsOf params X.env = ([], [])) (L : LamP X.env.scope scope ps)
    (h : ∀ (f c' : Addr) (pm ctv : Value) (H1 : Hp) (s' : Shared), Inv X pins σ H1 s' → (∀ b o, H b = some o → b ≠ P → H1 b = some o) → TabR mu H1 P q →
      s'.heap.get? f = some (PySem.W.kla_obj "<lambda>" q params body scope (cloFrom X.env.cells scope.names []) pm c' ctv) → H1 f = none → f ∉ frs X.stack → H1 c' = some (LamX.CodeO c' q) → ¬ mu c' → Q (.ref f) s') :
    wpAny (model X.prog X.w) X.A (eval (.Lambda params body scope pos) X.env) Q E s := by
  subst hq
  obtain ⟨tb, hP, tok, tin⟩ := T
  have hfree := L.has I.ok
  have atP : s.heap.get? P = some { cls := .none, data := .fields tb } := I.hok P _ hP
  have new_nofr : ∀ f, s.heap.objs.size ≤ f → f ∉ frs X.stack := by
    intro f hf z
    rcases List.mem_cons.mp (I.stkSub _ z) with e | e
    · have l := I.lt
      rw [← e] at l
      exact absurd (Nat.lt_of_lt_of_le l hf) (Nat.lt_irrefl _)
    · exact I.nofs hf e
  refine PySem.W.kla_eval hdef ?_
  cases hc : codeAmong pos tb.toList with
  | some cv =>
    obtain ⟨c', rfl, co, nm⟩ := tin pos cv hc
    refine PySem.W.kla_makeFunctionHit (mg := X.mg) (c := c) (P := P) (ps := tb) (closure_ok hfree) I.ok.glob (I.mod.glob.keeps I.bk) hcode (B.code.keeps I.bk) atP tok hc (B.bm.keeps I.bk) fun ctv h' tk hx hsz => ?_
    exact h h'.objs.size c' _ ctv H _ (I.kept fun b o e => Heap.get?_push_of_some _ (hx b o e)) (fun _ _ e _ => e) ⟨tb, hP, tok, tin⟩ (Heap.get?_push_size _ rfl) (I.hok.fresh hsz) (new_nofr _ hsz) co nm
  | none =>
    refine PySem.W.kla_makeFunction (mg := X.mg) (c := c) (P := P) (ps := tb) (closure_ok hfree) I.ok.glob (I.mod.glob.keeps I.bk) hcode (B.code.keeps I.bk) atP tok hc B.gP (B.bm.keeps I.bk) fun c' ctv h' tk hx hge hlt hrec htb => ?_
    obtain ⟨c2, oc, vs, t, e2, hoc, hd, hv⟩ := hrec
    cases e2
    have sz : s.heap.objs.size ≤ h'.objs.size := by omega
    have nC : H c' = none := I.hok.fresh hge
    have nPc : P ≠ c' := ne_of_none hP nC
    have J := LamX.inv_table (t' := tk) (more := #[rawInt pos.line, rawInt pos.col, .ref c']) (h' := h'.push (PySem.W.kla_obj "<lambda>" (X.env.qual ++ "<lambda>") params body scope (cloFrom X.env.cells scope.names []) ((X.mg "__name__").getD .none) c' ctv)) I hP
      (fun b o hb e => Heap.get?_push_of_some _ (hx b o hb e)) (Heap.get?_push_of_some _ htb) hge ⟨oc, vs, t, Heap.get?_push_of_some _ hoc, hd, hv⟩
    have keep : ∀ b o, H b = some o → b ≠ P → upd (upd H P (.tbl (tb ++ #[rawInt pos.line, rawInt pos.col, .ref c']))) c' (LamX.CodeO c' (X.env.qual ++ "<lambda>")) b = some o := fun b o e n => by
      rw [upd_ne (ne_of_none e nC), upd_ne n]
      exact e
    refine h h'.objs.size c' _ ctv _ _ J keep ⟨_, (upd_ne nPc).trans upd_same, ?_, fun p' cv hcv => ?_⟩ (Heap.get?_push_size _ rfl) ?_ (new_nofr _ sz) upd_same (hmu c' nC)
    · rw [Array.toList_append]
      exact PySem.TriplesOk_snoc _ _ _ _ tok
    · rw [Array.toList_append] at hcv
      rcases LamX.among_app _ tok hcv with z | z
      · obtain ⟨c0, e1, e2, e3⟩ := tin p' cv z
        refine ⟨c0, e1, keep c0 _ e2 fun ee => ?_, e3⟩
        rw [ee, hP] at e2
        exact LamX.codeO_ne tb (Option.some.inj e2).symm
      · exact ⟨c', z, upd_same, hmu c' nC⟩
    · have n2 : h'.objs.size ≠ P := Nat.ne_of_gt (Nat.lt_of_lt_of_le (Heap.lt_size atP) sz)
      rw [upd_ne (Nat.ne_of_gt hlt), upd_ne n2]
      exact I.hok.fresh sz
end
end Ev
end
section
set_option maxHeartbeats 2000000
namespace Ev
open PySem PySem.Spec PyProof.Rows L2
theorem setR_ne {ρ : Env} {j : Nat} : ∀ {is : List Nat} {ds : List D}, j ∉ is → (setR ρ is ds)[j]? = ρ[j]?
  | [], _, _ => rfl
  | _ :: _, [], _ => rfl
  | i :: is, _ :: vs, h => by
    rw [List.mem_cons, not_or] at h
    show ((setR ρ is vs).set i _)[j]? = _
    rw [List.getElem?_set_ne (fun e => h.1 e.symm)]
    exact setR_ne h.2
theorem setR_at {ρ : Env} {j k : Nat} {d : D} : ∀ {is : List Nat} {ds : List D}, is.Nodup → is[k]? = some j → ds[k]? = some d → j < ρ.length → (setR ρ is ds)[j]? = some (.val d)
  | [], _, _, h, _, _ => by simp at h
  | _ :: _, [], _, _, h, _ => by simp at h
  | i :: is, w :: vs, nd, h1, h2, hl => by
    show ((setR ρ is vs).set i _)[j]? = _
    cases k with
    | zero =>
      cases h1
      cases h2
      rw [List.getElem?_set_self (by rw [setR_len]; exact hl)]
    | succ k =>
      have h1 : is[k]? = some j := by simpa using h1
      have h2 : vs[k]? = some d := by simpa using h2
      obtain ⟨n1, n2⟩ := List.nodup_cons.mp nd
      rw [List.getElem?_set_ne fun (e : i = j) => n1 (by rw [e]; exact List.mem_of_getElem? h1)]
      exact setR_at n2 h1 h2 hl
section
variable {W : Wd} {z z1 : En} {m m2 : List Addr} {ow ow1 : Ow} {ρ ρ1 : Env} {A A2 : AH} {σ σ1 : L2.St} {H H2 : Hp} {f : Addr}
abbrev wcl (W : Wd) (z : En) (m : List Addr) (ow : Ow) (H : Hp) (f : Addr) : Wd := W.wc (some (f, ⟨muC z ow, H, m⟩))
theorem le_cl (S : SRel W z m ow ρ A σ H) (S2 : SRel (wcl W z m ow H f) z1 m2 ow1 ρ1 A2 σ1 H2) : Le (muOf z.mu m ow) H (muOf z1.mu m2 ow1) H2 ∧ m <+: m2 ∧ Sm m H m2 H2 := by
  obtain ⟨e1, e2, e3⟩ := S2.cl f _ rfl
  have e1 : m = z1.m := e1
  have e2 : H = z1.H := e2
  have e3 : ∀ p, z1.mu p → muC z ow p ∨ H p = none := e3
  have sm : Sm m H m2 H2 := by rw [e1, e2]; exact S2.sm
  refine ⟨⟨fun a o e n => sm.keep a o e fun y => n (.inr (.inl y)), fun a o e n y => ?_⟩, sm.pre, sm⟩
  rcases y with y | y | ⟨i, y⟩
  · rcases e3 a y with k | k
    · rcases k with k | k
      · exact n (.inl k)
      · exact n (.inr (.inr k))
    · rw [k] at e; cases e
  · have k := sm.new a y fun y => n (.inr (.inl y))
    rw [k] at e; cases e
  · have k := S2.own0 i a y
    rw [← e2] at k
    rw [k] at e; cases e
/-- the state of the lambda's body -/
theorem srel_lam {own : List Nat} {ds : List D} {vs : List V} (hW : W.cl = none) (S : SRel W z m ow ρ A σ H) (S2 : SRel (wcl W z m ow H f) z1 m2 ow1 ρ1 A2 σ1 H2) (hnd : own.Nodup) (hl : ds.length = own.length) (rd : Reps (wcl W z m ow H f) (muOf z1.mu m2 ow1) m2 H2 ds vs) :
    SRel W ⟨muC z1 ow1, H2, m2⟩ m2 ow0 (setR (valO ρ) own ds) A2 (setL σ own vs) H2 := by
  obtain ⟨le, pre, sm⟩ := le_cl S S2
  have hvl : (valO ρ).length = ρ.length := by unfold valO; simp
  refine ⟨by rw [setL_len, setR_len, hvl]; exact S.len, (fun _ _ e => by cases e), (fun _ _ e => by cases e), (fun _ _ e => by cases e), (fun _ _ _ e => by cases e), (fun _ _ => rfl), Sm.refl _ _, by rw [muC_eq]; exact S2.ok, fun i sl e => ?_, by rw [muC_eq]; exact hrel_wc.mp S2.hp, fun f z0 e => by rw [hW] at e; cases e⟩
  rw [muC_eq]
  have hi : i < ρ.length := by
    have := (List.getElem?_eq_some_iff.mp e).1
    rwa [setR_len, hvl] at this
  by_cases io : i ∈ own
  · obtain ⟨j, hj⟩ := List.mem_iff_getElem?.mp io
    have jl : j < ds.length := by rw [hl]; exact (List.getElem?_eq_some_iff.mp hj).1
    have hd := List.getElem?_eq_getElem jl
    rw [setR_at hnd hj hd (by rw [hvl]; exact hi)] at e
    cases e
    obtain ⟨v, hv, rv⟩ := rd.get hd
    exact ⟨rfl, v, setL_at hnd hj hv (by rw [S.len]; exact hi), (rep_wc _ _).mp rv⟩
  · rw [setR_ne io] at e
    unfold valO at e
    rw [List.getElem?_map] at e
    cases e0 : ρ[i]? with
    | none => rw [e0] at e; cases e
    | some s0 =>
      rw [e0] at e
      have k := S.slot i s0 e0
      cases s0 with
      | val d =>
        cases e
        obtain ⟨_, v, k2, k3⟩ := k
        exact ⟨rfl, v, by rw [setL_ne io]; exact k2, k3.mono le S.ok pre⟩
      | no => cases e; rfl
      | clo => cases e; rfl
      | own l => cases e; rfl
      | ownD l => cases e; rfl
end
abbrev calleeCx (X : Cx) (Ng : List Str) (qg : Str) (sg : Scope) (g : Addr) (cdg : Value) (s : Shared) (H : Hp) (Eg : XK) : Cx := cxOf (L2.CX X.prog X.w) X.prog X.w X.K X.mg X.base Ng qg sg g cdg X.A X.stack s H Eg
theorem bindA_self {α : Type} : ∀ {ps : List Str} {us : List α}, ps.Nodup → us.length = ps.length → bindA ps us [] = us := by
  have key : ∀ (ps : List Str) (us : List α) (L : List (Str × α)), ps.Nodup → us.length = ps.length → (∀ p ∈ ps, L.lookup p = none) → (ps.filterMap fun n => (L ++ ps.zip us).lookup n) = us := by
    intro ps
    induction ps with
    | nil => intro us L _ hl _; cases us with
      | nil => rfl
      | cons _ _ => cases hl
    | cons p ps ih =>
      intro us L nd hl hn
      cases us with
      | nil => cases hl
      | cons u us =>
        obtain ⟨n1, n2⟩ := List.nodup_cons.mp nd
        have e : (L ++ (p :: ps).zip (u :: us)).lookup p = some u := by
          rw [List.lookup_append, hn p List.mem_cons_self]
          simp [List.lookup]
        rw [List.filterMap_cons, e]
        have e2 : L ++ (p :: ps).zip (u :: us) = (L ++ [(p, u)]) ++ ps.zip us := by simp
        dsimp only
        rw [e2, ih us (L ++ [(p, u)]) n2 (by simpa using hl) fun x hx => ?_]
        rw [List.lookup_append, hn x (List.mem_cons_of_mem _ hx)]
        have : (x == p) = false := beq_eq_false_iff_ne.mpr fun e => n1 (e ▸ hx)
        simp [List.lookup, this]
  intro ps us nd hl
  have := key ps us [] nd hl (fun _ _ => rfl)
  unfold bindA
  simpa using this
section
variable {X : Cx} {W : Wd} {z z1 : En} {Wx : WX} {m m2 : List Addr} {ow ow1 : Ow} {ρ ρ1 : Env} {A A2 : AH} {σ σ1 : L2.St} {H H2 : Hp} {bb : Bool} {pins pins2 : List (Addr × Obj)} {s s2 : Shared}
  {Ng : List Str} {qg : Str} {sg : Scope} {g : Addr} {cdg : Value} {Eg : XK} {pn : List (Addr × Obj)} {xe : Value → Shared → Prop} {f c' : Addr} {pm ctv : Value} {params : Arguments} {body : Expr} {scope : Scope} {ps : List Str} {own : List Nat} {k : Nat} {fb : Env → M D}
/-- what stands at a call that hands a lambda over -/
structure LamAt (X : Cx) (W : Wd) (pins : List (Addr × Obj)) (z : En) (m : List Addr) (ow : Ow) (ρ : Env) (A : AH) (σ : L2.St) (H : Hp) (s : Shared) (f c' : Addr) (pm ctv : Value) (params : Arguments) (body : Expr) (scope : Scope) (ps : List Str) (own : List Nat) (k : Nat) (fb : Env → M D) : Prop where
  I : Inv X pins σ H s
  S : SRel W z m ow ρ A σ H
  hW : W.cl = none
  L : LamP X.env.scope scope ps
  nd : X.N.Nodup
  O : OwnP X.N ps own
  hf : s.heap.get? f = some (PySem.W.kla_obj "<lambda>" (X.env.qual ++ "<lambda>") params body scope (cloFrom X.env.cells scope.names []) pm c' ctv)
  hfn : H f = none
  hfr : f ∉ frs X.stack
  hco : H c' = some (LamX.CodeO c' (X.env.qual ++ "<lambda>"))
  hcm : ¬ muOf z.mu m ow c'
  sim : ∀ clos pm cv ctv, Simple (PySem.W.kla_fn "<lambda>" (X.env.qual ++ "<lambda>") params body scope clos pm cv ctv) ps
  body : ∀ (AA : Around) (outer : List PySem.Env) (s : Shared) (H : Hp) (E : XK) (zL : En), Room k (AA.deeper (LamX.lamEnv X scope s.heap.objs.size f c')) → AA.guards = some [] → L2.Takes (LamX.lamCx X AA outer s H E scope f c') (fun c d _ H => E c d H) →
    GE (LamX.lamCx X AA outer s H E scope f c') W zL (fun c d _ H => E c d H) false body fb
end
end Ev
end
section
set_option maxHeartbeats 2000000
namespace Ev
open PySem PySem.Spec PyProof.Rows L2
section
variable {X : Cx} {W : Wd} {z z1 : En} {Wx : WX} {m m2 : List Addr} {ow ow1 : Ow} {ρ ρ1 : Env} {A A2 : AH} {σ σ1 : L2.St} {H H2 : Hp} {bb : Bool} {pins pins2 : List (Addr × Obj)} {s s2 : Shared} {Q : VK}
  {Ng : List Str} {qg : Str} {sg : Scope} {g : Addr} {cdg : Value} {Eg : XK} {pn : List (Addr × Obj)} {xe : Value → Shared → Prop} {f c' : Addr} {pm ctv : Value} {params : Arguments} {body : Expr} {scope : Scope} {ps : List Str} {own : List Nat} {k : Nat} {fb : Env → M D}
theorem takes_lam {AA : Around} {outer : List PySem.Env} {E : XK} : L2.Takes (LamX.lamCx X AA outer s H E scope f c') (fun c d _ H => E c d H) := L2.takes_of rfl rfl rfl rfl
/-- the lambda is called -/
theorem act_core (F : LamAt X W pins z m ow ρ A σ H s f c' pm ctv params body scope ps own k fb) (tk : L2.Takes ((calleeCx X Ng qg sg g cdg s H Eg).tr pn xe) Wx) (hr : Room (k + 1) (calleeCx X Ng qg sg g cdg s H Eg).A) (hg : X.A.guards = some [])
    (I2 : Inv ((calleeCx X Ng qg sg g cdg s H Eg).tr pn xe) pins2 σ1 H2 s2) (S2 : SRel (wcl W z m ow H f) z1 m2 ow1 ρ1 A2 σ1 H2) {us : List Value} {vs : List V} {ds : List D} (r : Vals vs us) (rd : Reps (wcl W z m ow H f) (muOf z1.mu m2 ow1) m2 H2 ds vs)
    (hl : ds.length = ps.length) (q : OutE (wcl W z m ow H f) z1 Wx bb m2 ow1 ρ1 σ1 H2 Q (fb (setR (valO ρ) own ds) A2)) :
    wpAny (model X.prog X.w) (calleeCx X Ng qg sg g cdg s H Eg).A (call (.ref f) us) (EP ((calleeCx X Ng qg sg g cdg s H Eg).tr pn xe) pins2 σ1 Q) xe s2 := by
  obtain ⟨le, pre, sm⟩ := le_cl F.S S2
  have hf2 : s2.heap.get? f = some (PySem.W.kla_obj "<lambda>" (X.env.qual ++ "<lambda>") params body scope (cloFrom X.env.cells scope.names []) pm c' ctv) := I2.base.keep f _ F.hf F.hfn F.hfr (fun z => nomatch (show f ∈ ([] : List Addr) from z))
  have un : Un (frs X.stack) [] H H2 s.heap s2.heap := I2.base
  have hc2 : H2 c' = some (LamX.CodeO c' (X.env.qual ++ "<lambda>")) := sm.keep c' _ F.hco fun y => F.hcm (.inr (.inl y))
  obtain ⟨⟨oc, fv, t, hoc, hdc, hvc⟩, _, _⟩ := I2.hok c' _ hc2
  have lv : vs.length = ps.length := by rw [← rd.length, hl]
  have lu : us.length = ps.length := by rw [← r.length, lv]
  have hb : ∀ clos pm cv ctv, bindArgs (PySem.W.kla_fn "<lambda>" (X.env.qual ++ "<lambda>") params body scope clos pm cv ctv) ⟨us, []⟩ = pure (ps.zip us) := fun clos pm cv ctv => by
    have b := bind_to (ks := []) (ws := []) (n := ps.length) (F.sim clos pm cv ctv) lu rfl (by unfold bindOk; simp [ndS])
    simp only [List.zip_nil_left] at b
    rw [b, bindA_self F.O.np lu]
  have hq : ∀ y ∈ ps.zip us, scope.names.lookup y.1 = some .local := fun ⟨a, b⟩ hy => F.L.par a (List.of_mem_zip hy).1
  have rc : codeAny (model X.prog X.w) (calleeCx X Ng qg sg g cdg s H Eg).A (.call (.ref f) ⟨us, []⟩) (CR (L2.CX X.prog X.w) (calleeCx X Ng qg sg g cdg s H Eg).stack X.prog X.w H2 s2 Q (fun c d H => Wx c d σ1 H)) s2 := by
    refine PySem.W.kla_callFunE hr.depth hf2 rfl F.L.co F.L.gen rfl ⟨c', oc, fv, t, rfl, hoc, hdc, hvc⟩ ?_
    rw [hb]
    refine wpAny_pure (wpAny_newFunctionEnv F.L.nocell hq (fun h₁ hns hsb => ⟨I2.nolimit.fresh _ hsb, ?_⟩) F.L.kind)
    have kp : ∀ b o, s2.heap.get? b = some o → h₁.get? b = some o := fun b o e => hsb.extBut b o (Nat.ne_of_lt (Heap.lt_size e)) (Heap.get?_push_of_some _ e)
    have J : Inv (LamX.lamCx X (calleeCx X Ng qg sg g cdg s H Eg).A (calleeCx X Ng qg sg g cdg s H Eg).stack s2 H2 (fun c d H => Wx c d σ1 H) scope f c') [] (setL σ own vs) H2 { s2 with heap := h₁, toks := s2.toks + (ps.zip us).length } :=
      lam_startP F.I F.L F.nd F.O r lv I2.env0 hr.hd un hns kp
    have SL := srel_lam F.hW F.S S2 F.O.nd (by rw [hl, F.O.len]) rd
    have tq : TEv W ⟨muC z1 ow1, H2, m2⟩ (fun c d _ H => Wx c d σ1 H) false fb (setL σ own vs) H2 Q := by
      refine ⟨m2, ow0, _, A2, SL, ?_⟩
      cases e : fb (setR (valO ρ) own ds) A2 with
      | ok d A' =>
        rw [e] at q
        intro m' H' v s1 S' rp
        have hp' := S'.hp
        rw [muC_eq] at hp' rp
        have hp2 : HRel (wcl W z m ow H f) (muOf z1.mu m' ow1) m' A' H' := hrel_wc.mpr hp'
        exact q m' H' v s1 (S2.step s1 hp2) (repx ((rep_wc _ _).mpr rp))
      | exc x A' =>
        rw [e] at q
        intro m' H' cls dd s1 S' rp
        have hp' := S'.hp
        rw [muC_eq] at hp' rp
        have hp2 : HRel (wcl W z m ow H f) (muOf z1.mu m' ow1) m' A' H' := hrel_wc.mpr hp'
        exact q m' H' cls dd s1 (S2.step s1 hp2) (exR_wc.mpr rp)
      | stuck => rw [e] at q; exact q.elim
    refine PySem.W.kla_codeExpr (wpAny_mono ((F.body _ _ s2 H2 _ _ (hr.deeper _) hg takes_lam).run [] _ _ H2 Q J tq) (fun v s' hq => ?_) fun e s' hq => hq)
    obtain ⟨w', H', J', rv, q⟩ := hq
    exact ⟨w', H', J'.os, J'.bare, J'.base, J'.hok, rv, q⟩
  refine wpAny_call (codeAny_mono rc fun r s' hq => ?_)
  cases r with
  | error e => exact L2.passAt tk σ1 pins2 H2 s2 e s' I2 hq
  | ok fl =>
    cases fl with
    | ret u => exact I2.after hq
    | next => exact False.elim hq
    | brk => exact False.elim hq
    | cont => exact False.elim hq
/-- the closure's slot -/
def isClo (ρ : Env) (i : Nat) : Bool := match ρ[i]? with
  | some .clo => true
  | _ => false
/-- x(..), x the closure -/
theorem ge_act {a : Str} {i : Nat} {p1 p2 : Pos} {e : Expr} {es : List Expr} {fl : Env → M (List D)} (F : LamAt X W pins z m ow ρ A σ H s f c' pm ctv params body scope ps own k fb) (tk : L2.Takes ((calleeCx X Ng qg sg g cdg s H Eg).tr pn xe) Wx) (hr : Room (k + 1) (calleeCx X Ng qg sg g cdg s H Eg).A) (hg : X.A.guards = some [])
    (hN : Ng[i]? = some a) (hv : Vis sg a) (hd : (a == ("__debug__" : Str)) = false) (hcd : (a == ("__classdict__" : Str)) = false)
    (ha : GA ((calleeCx X Ng qg sg g cdg s H Eg).tr pn xe) (wcl W z m ow H f) z1 Wx false (e :: es) fl) (hn : nsts (e :: es) = true) :
    GE ((calleeCx X Ng qg sg g cdg s H Eg).tr pn xe) (wcl W z m ow H f) z1 Wx bb (.Call (.Name a p1) (e :: es) [] p2) (fun r => (grd (isClo r i)).bind fun _ => (fl r).bind fun xs => (grd (decide (xs.length = ps.length))).bind fun _ => fb (setR (valO ρ) own xs)) := by
  refine ⟨fun pins1 s1 σ1 H1 Q I1 ⟨m1, ow1, ρ1, A1, S1, q⟩ => ?_⟩
  obtain ⟨hc, q⟩ := grdb q
  have hslot : σ1[i]? = some (some (.ref f)) := by
    unfold isClo at hc
    cases er : ρ1[i]? with
    | none => rw [er] at hc; cases hc
    | some sl =>
      rw [er] at hc
      cases sl with
      | clo =>
        obtain ⟨_, f', z0, e1, e2⟩ := S1.slot i _ er
        cases e1
        exact e2
      | _ => cases hc
  refine wpAny_Call_Name_kw (thn ((pe_var (X := (calleeCx X Ng qg sg g cdg s H Eg).tr pn xe) (pos := p1) (i := i) hN hv hd hcd).run pins1 s1 σ1 H1 (fun v Hx => v = .ref f ∧ Hx = H1) I1 ⟨.ref f, hslot, rfl, rfl⟩) fun u s2 ⟨v, Hx, I2, r2, ev, eH⟩ => ?_)
  subst ev
  subst eH
  obtain rfl : u = Value.ref f := r2
  have fn_at : ∀ {s3 : Shared} {H3 : Hp}, Inv ((calleeCx X Ng qg sg g cdg s H Eg).tr pn xe) pins1 σ1 H3 s3 → PySem.W.FnAt f s3.heap := fun J => ⟨_, _, _, _, J.base.keep f _ F.hf F.hfn F.hfr (fun z => nomatch (show f ∈ ([] : List Addr) from z))⟩
  obtain ⟨n1, n2⟩ := Bool.and_eq_true_iff.mp hn
  refine PySem.W.callWith_F (fn_at I2) ?_ (nst_eq n1) (nsts_any n2)
  refine thn (ha.run p2 pins1 s2 σ1 Hx (fun vs H3 => ∃ m3 A3 ds, SRel (wcl W z m ow H f) z1 m3 ow1 ρ1 A3 σ1 H3 ∧ Reps (wcl W z m ow H f) (muOf z1.mu m3 ow1) m3 H3 ds vs ∧ OutE (wcl W z m ow H f) z1 Wx bb m3 ow1 ρ1 σ1 H3 Q (((grd (decide (ds.length = ps.length))).bind fun _ => fb (setR (valO ρ) own ds)) A3)) I2 ?_) fun us s3 ⟨vs, H3, I3, r3, m3, A3, ds, S3, rd, q3⟩ => ⟨fn_at I3, ?_⟩
  · exact tg_then (fa := fl) S1 q fun m3 H3 A3 ds vs s3 S3 r3 q3 => ⟨m3, A3, ds, S3, rpsX_f r3, q3⟩
  · obtain ⟨hl, q4⟩ := grdb q3
    exact act_core F tk hr hg I3 S3 r3 rd (of_decide_eq_true hl) q4
end
end Ev
end
section
set_option maxHeartbeats 2000000
namespace Ev
open PySem PySem.Spec PyProof.Rows L2
/-- what is called with a closure -/
def lamOf (n : Nat) (ρ : Env) (own : List Nat) (fb : Env → M D) : List D → M D := fun xs => (grd (decide (xs.length = n))).bind fun _ => fb (setR (valO ρ) own xs)
/-- in a def that got a closure: how it is called -/
def CloR (X : Cx) (W : Wd) (lam : List D → M D) : Prop :=
  ∀ (pn : List (Addr × Obj)) (xe : Value → Shared → Prop) (z : En) (Wx : WX) (bb : Bool) (i : Nat) (a : Str) (p1 p2 : Pos) (e : Expr) (es : List Expr) (fl : Env → M (List D)), L2.Takes (X.tr pn xe) Wx → X.N[i]? = some a → Vis X.env.scope a → (a == ("__debug__" : Str)) = false → (a == ("__classdict__" : Str)) = false →
    GA (X.tr pn xe) W z Wx false (e :: es) fl → nsts (e :: es) = true → GE (X.tr pn xe) W z Wx bb (.Call (.Name a p1) (e :: es) [] p2) (fun r => (grd (isClo r i)).bind fun _ => (fl r).bind lam)
theorem CloR.tr {X : Cx} {W : Wd} {lam : List D → M D} (h : CloR X W lam) (pn : List (Addr × Obj)) (xe : Value → Shared → Prop) : CloR (X.tr pn xe) W lam := fun pn' xe' => h pn' xe'
/-- a def whose last parameter is a closure -/
structure FnH (P : Program) (w : World) (K : PySem.W.Frag) (mg : Str → Option Value) (base : Heap) (W : Wd) (k : Nat) (fa : Addr) (fd : FuncData) (ps : List Str) (g : List D → (List D → M D) → M D) : Prop where
  run : ∀ {X : Cx} {pins : List (Addr × Obj)} {z : En} {m : List Addr} {ow : Ow} {ρ : Env} {A : AH} {σ : L2.St} {H : Hp} {s : Shared} {f c' : Addr} {pm ctv : Value} {params : Arguments} {body : Expr} {scope : Scope} {lps : List Str} {own : List Nat} {fb : Env → M D}, X.prog = P → X.w = w → X.K = K → X.mg = mg → X.base = base →
    LamAt X W pins z m ow ρ A σ H s f c' pm ctv params body scope lps own k fb → Room (k + 2) X.A → X.A.guards = some [] → ∀ (args : Args) (us : List Value) (vs : List V) (ds : List D) (Q : VK) (E : XK), BindsTo s fd args (ps.zip us) → Vals (vs ++ [.ref f]) us → Reps W (muOf z.mu m ow) m H ds vs →
    ds.length + 1 = ps.length → OutS W (muC z ow) m H Q E (g ds (lamOf lps.length ρ own fb) A) → codeAny (model X.prog X.w) X.A (.call (.ref fa) args) (CR (L2.CX X.prog X.w) X.stack X.prog X.w H s Q E) s
def runH (f : (List D → M D) → Env → M Fl) (n : Nat) (ds : List D) (lam : List D → M D) : M D := (f lam (ds.map .val ++ .clo :: List.replicate (n - (ds.length + 1)) .no)).bind fun fl => match fl with
  | .rt d => M.pure d
  | .nx _ => M.pure .non
section
variable {P : Program} {w : World} {K : PySem.W.Frag} {mg : Str → Option Value} {base : Heap} {k : Nat} {fa : Addr} {name qual : Str} {params : Arguments} {body : List Stmt} {scope : Scope} {dV kV doc pm cdv ct oc : Value} {an od : Option Addr}
  {osl : Array (Option Value)} {N ps : List Str} {W : Wd} {f : (List D → M D) → Env → M Fl}
theorem start_relC {mu0 : Addr → Prop} {m : List Addr} {A : AH} {H : Hp} {ds : List D} {vs : List V} {fo : Addr} (ok : MuOk (muOf mu0 m ow0) H) (hp : HRel W (muOf mu0 m ow0) m A H) (r : Reps W (muOf mu0 m ow0) m H ds vs) (hl : vs.length + 1 ≤ N.length) :
    SRel (W.wc (some (fo, ⟨mu0, H, m⟩))) ⟨mu0, H, m⟩ m ow0 (ds.map .val ++ .clo :: List.replicate (N.length - (ds.length + 1)) .no) A (start N (vs ++ [.ref fo])) H := by
  have hd := r.length
  refine ⟨?_, (fun _ _ e => by cases e), (fun _ _ e => by cases e), (fun _ _ e => by cases e), (fun _ _ _ e => by cases e), (fun _ _ => rfl), Sm.refl _ _, ok, fun i sl e => ?_, hrel_wc.mpr hp, fun f z0 e => by cases e; exact ⟨rfl, rfl, fun p q => .inl q⟩⟩
  · unfold L2.start
    simp [hd]
  · by_cases hi : i < ds.length
    · rw [List.getElem?_append_left (by simpa using hi), List.getElem?_map, List.getElem?_eq_getElem hi] at e
      cases e
      obtain ⟨v, hv, rv⟩ := r.get (List.getElem?_eq_getElem hi)
      refine ⟨rfl, v, ?_, (rep_wc _ _).mpr rv⟩
      rw [start_get (by simp; omega), List.getElem?_append_left (by omega), hv]
      rfl
    · rw [List.getElem?_append_right (by simpa using hi), List.length_map] at e
      by_cases h2 : i = ds.length
      · subst h2
        rw [Nat.sub_self] at e
        cases e
        refine ⟨rfl, fo, _, rfl, ?_⟩
        rw [start_get (by simp; omega), List.getElem?_append_right (by omega), hd, Nat.sub_self]
        rfl
      · have e' : (List.replicate (N.length - (ds.length + 1)) Sl.no)[i - ds.length - 1]? = some sl := by
          have : i - ds.length = (i - ds.length - 1) + 1 := by omega
          rw [this, List.getElem?_cons_succ] at e
          exact e
        rw [List.eq_of_mem_replicate (List.mem_of_getElem? e')]
        rfl
theorem fnH_of (lk : K.lookup fa = some ⟨oc, od, .func (PySem.W.fnOf name qual params body scope dV kV doc pm an cdv ct), osl⟩) (hcd : PySem.W.codeIn K cdv qual = true) (S : FnScope N ps scope) (eK : W.K = K) (emg : W.mg = mg) (ew : W.w = w) (hlen : ps.length ≤ N.length)
    (hbody : ∀ (z : En) (E : XK) (X : Cx) (W' : Wd) (lam : List D → M D), W'.K = W.K → W'.mg = W.mg → W'.w = W.w → BX W' P w K mg base (k + 1) N scope E qual cdv X → CloR X W' lam → GSs X W' z (fun c d _ H => E c d H) body (f lam)) :
    FnH P w K mg base W k fa (PySem.W.fnOf name qual params body scope dV kV doc pm an cdv ct) ps (runH f N.length) := by
  refine ⟨fun {X pins z m ow ρ A σ H s fo c' pm' ctv pa lb lsc lps own fb} hP hw hK hmg hbs F hr hg args us vs ds Q E hb r rd hl out => ?_⟩
  subst hP hw hK hmg hbs
  have e0 := F.I.env0
  have KX := F.I.kIn
  have lv : (vs ++ [V.ref fo]).length = ps.length := by rw [List.length_append, ← rd.length]; exact hl
  have hkind : ∀ y ∈ ps.zip us, scope.names.lookup y.1 = some .local ∨ (scope.names.lookup y.1 = some .cell ∧ ((cellsFrom (s.heap.objs.size + 1) scope.names []).lookup y.1).isSome = true) := fun ⟨n, v⟩ hy => by
    rcases S.par n (List.of_mem_zip hy).1 with q | q
    · exact .inl q
    · exact .inr ⟨q, PySem.W.cellsFrom_some _ _ _ (.inl q)⟩
  refine codeAny_call_function hr.depth (KX _ _ lk) rfl S.co S.gen rfl (PySem.W.codeRec_of KX hcd) (hb _ _ _ _ ?_)
  refine wpAny_newFunctionEnv_cells S.kind hkind fun env he s1 x => ?_
  subst he
  refine ⟨F.I.nolimit.keeps x.toInCall.keep, codeAny_func ?_⟩
  have J : Inv (calleeCx X N qual scope fa cdv s H E) [] (start N (vs ++ [.ref fo])) H s1 := inv_start S hr.hd e0 lv r x
  have hr1 : Room (k + 1) (calleeCx X N qual scope fa cdv s H E).A := hr.deeper _
  have bx : BX (wcl W z m ow H fo) X.prog X.w X.K X.mg X.base (k + 1) N scope E qual cdv (calleeCx X N qual scope fa cdv s H E) := ⟨⟨eK.symm, emg.symm, ew.symm⟩, rfl, rfl, rfl, rfl, rfl, rfl, fun _ => rfl, hg, hr1, L2.takes_of rfl rfl rfl rfl, L2.passes_of (E₁ := fun e' s'' => L2.CX X.prog X.w X.stack H s E e' s'') rfl, rfl, rfl⟩
  have clo : CloR (calleeCx X N qual scope fa cdv s H E) (wcl W z m ow H fo) (lamOf lps.length ρ own fb) := fun pn xe z1 Wx bb i a p1 p2 e es fl tk hN hv hd hcd ha hn => ge_act F tk hr1 hg hN hv hd hcd ha hn
  have ok' : MuOk (muOf (muC z ow) m ow0) H := by rw [muC_eq]; exact F.S.ok
  have ht := hbody ⟨muC z ow, H, m⟩ E _ (wcl W z m ow H fo) _ rfl rfl rfl bx clo
  have tq : TSt (wcl W z m ow H fo) ⟨muC z ow, H, m⟩ (fun c d _ H => E c d H) (f (lamOf lps.length ρ own fb)) { nx := fun _ H' => Q .non H', rt := Q } (start N (vs ++ [.ref fo])) H := by
    refine ⟨m, ow0, _, A, start_relC ok' (by rw [muC_eq]; exact F.S.hp) (by rw [muC_eq]; exact rd) (by rw [← rd.length]; omega), ?_⟩
    unfold runH M.bind at out
    cases e : f (lamOf lps.length ρ own fb) (ds.map .val ++ .clo :: List.replicate (N.length - (ds.length + 1)) .no) A with
    | ok fl A' =>
      rw [e] at out
      cases fl with
      | nx ρ' => exact fun m' ow' σ' H' l S' => out m' H' .non S'.sm (muOk_sub S'.ok) ((hrel_wc.mp S'.hp).mono muOf_sub S'.ok fun _ _ => rfl) rfl
      | rt d => exact fun m' ow' ρ' σ' H' v l S' rv => out m' H' v S'.sm (muOk_sub S'.ok) ((hrel_wc.mp S'.hp).mono muOf_sub S'.ok fun _ _ => rfl) (((rep_wc _ _).mp rv).mono muOf_sub S'.ok ⟨[], by simp⟩)
    | exc x A' =>
      rw [e] at out
      intro m' ow' ρ' σ' H' cls dd l S' rx
      refine out m' H' cls dd S'.sm (muOk_sub S'.ok) ((hrel_wc.mp S'.hp).mono muOf_sub S'.ok fun _ _ => rfl) ?_
      obtain ⟨C, h1, h2, h3⟩ := exR_wc.mp rx
      refine ⟨C, h1, h2, ?_⟩
      rcases h3 with h3 | ⟨d, vs, h4, h5, h6⟩
      · exact .inl h3
      · refine .inr ⟨d, vs, h4, h5, ?_⟩
        clear h5 e out
        generalize x.fs = fs at h6
        induction fs generalizing vs with
        | nil => exact h6
        | cons q fs ih =>
          obtain ⟨q1, q2⟩ := q
          obtain ⟨v, t, e1, e2, e3⟩ := h6
          exact ⟨v, t, e1, e2.mono muOf_sub S'.ok ⟨[], by simp⟩, ih t e3⟩
    | stuck => rw [e] at out; exact out.elim
  refine wpAny_mono (ht.run [] s1 (start N (vs ++ [.ref fo])) H _ J tq) (fun fl s' hs => ?_) fun e s' hs => hs
  have fin : ∀ {σ' : L2.St} {H' : Hp} {v : V} {u : Value}, Inv (calleeCx X N qual scope fa cdv s H E) [] σ' H' s' → RelV v u → Q v H' → CE X.stack X.prog X.w H s Q u s' :=
    fun {σ' H' v u} J rv q => ⟨v, H', J.os, J.bare, J.base, J.hok, rv, q⟩
  cases fl with
  | ret u =>
    obtain ⟨v, σ', H', J, rv, q⟩ := hs
    exact fin J rv q
  | next =>
    obtain ⟨σ', H', J, q⟩ := hs
    exact fin (v := V.non) (u := Value.none) J rfl q
  | brk =>
    obtain ⟨_, _, _, q⟩ := hs
    exact False.elim q
  | cont =>
    obtain ⟨_, _, _, q⟩ := hs
    exact False.elim q
end
/-! ### the call that hands a lambda over -/
structure FnHC (X : Cx) (W : Wd) (k : Nat) (x : Str) (ps : List Str) (g : List D → (List D → M D) → M D) : Prop where
  ex : ∃ (fa : Addr) (fd : FuncData), FnH X.prog X.w X.K X.mg X.base W k fa fd ps g ∧ X.mg x = some (.ref fa) ∧ PySem.W.keepIn X.K (.ref fa) = true ∧ Simple fd ps ∧ ps.Nodup
section
variable {X : Cx} {W : Wd} {z : En} {Wx : WX} {m : List Addr} {ow : Ow} {ρ : Env} {A : AH} {σ : L2.St} {H : Hp} {bb : Bool} {pins : List (Addr × Obj)} {s : Shared} {Q : VK} {x : Str} {ps lps : List Str} {g : List D → (List D → M D) → M D} {k : Nat} {params : Arguments} {body : Expr} {scope : Scope} {own : List Nat} {fb f0 : Env → M D} {p lpos pos : Pos} {e0 : Expr} {c P : Addr} {t : Nat}
theorem OutG.outS {r : R D} (S : SRel W z m ow ρ A σ H) (h : OutE W z Wx bb m ow ρ σ H Q r) : OutS W (muC z ow) m H Q (fun c d H => Wx c d σ H) r := by
  cases r with
  | ok d A' =>
    intro m' H' v s1 ok hp rp
    rw [muC_eq] at ok hp rp
    exact h m' H' v s1 (S.step s1 hp) (repx rp)
  | exc x A' =>
    intro m' H' cls dd s1 ok hp rp
    rw [muC_eq] at ok hp rp
    exact h m' H' cls dd s1 (S.step s1 hp) rp
  | stuck => exact h.elim
/-- the maker's table -/
structure LamT (X : Cx) (W : Wd) (t : Nat) : Prop where
  ex : ∃ c P, X.env.code = .ref c ∧ LamX.TabB X.base X.mg c P ∧ W.tabs[t]? = some (P, X.env.qual ++ "<lambda>")
/-- what the lambda asks -/
structure LamOk (X : Cx) (W : Wd) (params : Arguments) (body : Expr) (scope : Scope) (lps : List Str) (own : List Nat) (k : Nat) (fb : Env → M D) : Prop where
  L : LamP X.env.scope scope lps
  O : OwnP X.N lps own
  df : defaultsOf params X.env = ([], [])
  sim : ∀ q clos pm cv ctv, Simple (PySem.W.kla_fn "<lambda>" q params body scope clos pm cv ctv) lps
  body : ∀ (AA : Around) (outer : List PySem.Env) (s : Shared) (H : Hp) (E : XK) (zL : En) (f c' : Addr), Room k (AA.deeper (LamX.lamEnv X scope s.heap.objs.size f c')) → AA.guards = some [] → L2.Takes (LamX.lamCx X AA outer s H E scope f c') (fun c d _ H => E c d H) →
    GE (LamX.lamCx X AA outer s H E scope f c') W zL (fun c d _ H => E c d H) false body fb
/-- the lambda is made -/
theorem lam_at {E : Value → Shared → Prop} {R : Value → Shared → Prop} (T : LamT X W t) (hW : W.cl = none) (nd : X.N.Nodup) (LO : LamOk X W params body scope lps own k fb) (I : Inv X pins σ H s) (S : SRel W z m ow ρ A σ H)
    (h : ∀ (f c' : Addr) (pm ctv : Value) (H1 : Hp) (s1 : Shared), Sm m H m H1 → LamAt X W pins z m ow ρ A σ H1 s1 f c' pm ctv params body scope lps own k fb → R (.ref f) s1) :
    wpAny (model X.prog X.w) X.A (eval (.Lambda params body scope lpos) X.env) R E s := by
  obtain ⟨c, P, hc, TB, ht⟩ := T.ex
  obtain ⟨hmP, hAt⟩ := S.hp.tb t P _ ht
  have TP : TabR (muOf z.mu m ow) H P (X.env.qual ++ "<lambda>") := S.hp.obj t P _ hmP hAt
  refine mk_lam I TB hc rfl TP (fun a e w => ?_) LO.df LO.L fun f c' pm ctv H1 s1 I1 keep T1 hf hfn hfr hco hcm => ?_
  · obtain ⟨o, e2, _⟩ := S.ok a w
    rw [e] at e2
    cases e2
  · have memP : P ∈ m := List.mem_of_getElem? hmP
    have sm : Sm m H m H1 := ⟨⟨[], by simp⟩, fun a o e n => keep a o e fun q => n (q ▸ memP), fun a o e => by
      by_cases q : a = P
      · subst q
        obtain ⟨tb, h1, _⟩ := T1
        exact ⟨_, h1⟩
      · exact ⟨o, keep a o e q⟩, fun p h1 h2 => absurd h1 h2⟩
    have hp : HRel W (muOf z.mu m ow) m A H1 := ⟨S.hp.len, S.hp.inj, fun i p o h1 h2 => by
      by_cases q : p = P
      · subst q
        obtain rfl := S.hp.inj i t p h1 hmP
        rw [hAt] at h2
        cases h2
        exact T1
      · have k0 := S.hp.obj i p o h1 h2
        obtain ⟨u, e, _⟩ := k0.good
        exact k0.mono sm.le S.ok ⟨[], by simp⟩ (by rw [e]; exact keep p u e q), S.hp.tb⟩
    exact h f c' pm ctv H1 s1 sm ⟨I1, S.step sm hp, hW, LO.L, nd, LO.O, hf, hfn, hfr, hco, hcm, LO.sim _, fun AA outer s H E zL => LO.body AA outer s H E zL f c'⟩
theorem ge_callH (FC : FnHC X W k x ps g) (hr : Room (k + 2) X.A) (hgd : X.A.guards = some []) (tk : L2.Takes X Wx) (hg : Gl X x) (hdb : (x == ("__debug__" : Str)) = false) (T : LamT X W t) (hW : W.cl = none) (nd : X.N.Nodup) (LO : LamOk X W params body scope lps own k fb)
    (h0 : GE X W z Wx false e0 f0) (hn : nst e0 = true) :
    GE X W z Wx bb (.Call (.Name x p) [e0, .Lambda params body scope lpos] [] pos) (fun ρ => (f0 ρ).bind fun d => (grd (decide (ps.length = 2))).bind fun _ => g [d] (lamOf lps.length ρ own fb)) := by
  refine ⟨fun pins s σ H Q I ⟨m, ow, ρ, A, S, q⟩ => ?_⟩
  obtain ⟨fa, fd, FH, hm, hk, hs, ndp⟩ := FC.ex
  refine wpAny_Call_Name_kw (ld_glob I hg hm ?_ hdb)
  refine PySem.W.callWith_K (h₀ := X.base) I.ok.mod.kin hk ?_ (nst_eq hn) rfl
  rw [nst_eq hn]
  show wpAny _ _ (spliced ((false, eval e0 X.env) :: (false, eval (.Lambda params body scope lpos) X.env) :: [])) _ _ s
  refine Calls.spliced_cons (thn (h0.run pins s σ H (fun v H1 => ∃ m1 A1 d, SRel W z m1 ow ρ A1 σ H1 ∧ Rep W (muOf z.mu m1 ow) m1 H1 d v ∧ OutE W z Wx bb m1 ow ρ σ H1 Q (((grd (decide (ps.length = 2))).bind fun _ => g [d] (lamOf lps.length ρ own fb)) A1)) I ?_) fun u0 s1 ⟨v0, H1, I1, r0, m1, A1, d, S1, rd, q1⟩ => ?_)
  · exact tg_then (fa := f0) S q fun m1 H1 A1 d v s1 S1 r1 q1 => ⟨m1, A1, d, S1, r1, q1⟩
  · obtain ⟨h2, q2⟩ := grdb q1
    have h2 := of_decide_eq_true h2
    refine Calls.spliced_cons (lam_at T hW nd LO I1 S1 fun f c' pm ctv H2 s2 sm F => ?_)
    refine Calls.spliced_nil ⟨F.I.kIn, ?_⟩
    have rd2 : Rep W (muOf z.mu m1 ow) m1 H2 d v0 := rd.mono sm.le S1.ok sm.pre
    have hb : bindArgs fd ⟨[u0, .ref f], []⟩ = pure (ps.zip [u0, .ref f]) := by
      have b := bind_to (ks := []) (ws := []) (us := [u0, .ref f]) (n := ps.length) hs (by simp [h2]) rfl (by unfold bindOk; simp [ndS])
      simp only [List.zip_nil_left] at b
      rw [b, bindA_self ndp (by simp [h2])]
    have q3 : OutS W (muC z ow) m1 H2 Q (fun c d H => Wx c d σ H) (g [d] (lamOf lps.length ρ own fb) A1) := OutG.outS F.S (q2.later sm)
    refine wpAny_call (codeAny_mono (FH.run rfl rfl rfl rfl rfl F hr hgd ⟨[u0, .ref f], []⟩ [u0, .ref f] [v0] [d] Q _ (.of_eq hb) (.cons r0 (.cons rfl .nil)) ⟨v0, [], rfl, rd2, rfl⟩ (by simp [h2]) q3) fun r s' hq => ?_)
    cases r with
    | error e => exact L2.passAt tk σ pins H2 s2 e s' F.I hq
    | ok fl =>
      cases fl with
      | ret u => exact F.I.after hq
      | next => exact False.elim hq
      | brk => exact False.elim hq
      | cont => exact False.elim hq
end
end Ev
end
section
set_option maxHeartbeats 4000000
namespace Ev
open PySem PySem.Spec PyProof.Rows L2
open PySem.W (EachIs AllAlike alike alikeAll KdlSrc)
/-! ### sorted(d): a dict's keys -/
mutual
theorem reads_lt {h : Heap} : ∀ (d : PyData) (v : Value) (as : List Addr), alike d d = true → Reads h v d as → ∀ a ∈ as, a < h.objs.size
  | .none, _, _, _, r, a, ha => by cases r; cases ha
  | .bool _, _, _, _, r, a, ha => by cases r; cases ha
  | .int _, _, _, _, r, a, ha => by cases r; cases ha
  | .str _, _, _, _, r, a, ha => by cases r; cases ha
  | .list xs, _, _, hal, r, a, ha => by
    cases r with
    | list h1 h2 h3 h4 =>
      rcases List.mem_cons.mp ha with rfl | ha
      · exact Heap.lt_size h1
      · exact readsAll_lt xs _ _ (by simpa [alike] using hal) h4 a ha
  | .tuple xs, _, _, hal, r, a, ha => by
    cases r with
    | @tuple b o vs n _ _ h1 h2 h3 h4 => exact readsAll_lt xs _ _ (by simpa [alike] using hal) h4 a ha
  | .dict _, _, _, hal, _, _, _ => absurd hal (by simp [alike])
theorem readsAll_lt {h : Heap} : ∀ (ds : List PyData) (vs : List Value) (as : List Addr), alikeAll ds ds = true → ReadsAll h vs ds as → ∀ a ∈ as, a < h.objs.size
  | [], _, _, _, r, a, ha => by cases r; cases ha
  | d :: ds, _, _, hal, r, a, ha => by
    cases r with
    | cons h1 h2 =>
      rcases List.mem_append.mp ha with ha | ha
      · exact reads_lt d _ _ (PySem.W.alike_all_cons hal).1 h1 a ha
      · exact readsAll_lt ds _ _ (PySem.W.alike_all_cons hal).2 h2 a ha
end
theorem each_lt {h : Heap} {β : Type} {enc : β → PyData} {D : Addr} (hD : h.objs.size ≤ D) : ∀ {us : List Value} {bs : List β}, (∀ b ∈ bs, alike (enc b) (enc b) = true) → EachIs (fun v b => ∃ as, Reads h v (enc b) as) us bs → EachIs (fun v b => ∃ as, Reads h v (enc b) as ∧ D ∉ as) us bs
  | _, _, _, .nil => .nil
  | _, _, hal, .cons ⟨as, r⟩ t => .cons ⟨as, r, fun hm => by
      have := reads_lt _ _ _ (hal _ List.mem_cons_self) r D hm
      exact absurd this (Nat.not_lt.mpr hD)⟩ (each_lt hD (fun b hb => hal b (List.mem_cons_of_mem _ hb)) t)
theorem each_keep {h h' : Heap} {β : Type} {enc : β → PyData} {D : Addr} (k : ∀ b o, h.get? b = some o → h'.get? b = some o) : ∀ {us : List Value} {bs : List β}, EachIs (fun v b => ∃ as, Reads h v (enc b) as ∧ D ∉ as) us bs → EachIs (fun v b => ∃ as, Reads h' v (enc b) as ∧ D ∉ as) us bs
  | _, _, .nil => .nil
  | _, _, .cons ⟨as, r, n⟩ t => .cons ⟨as, PyProof.Rows.Reads.keeps k r, n⟩ (each_keep k t)
section
variable {prog : Program} {w : World} {A : Around} {E : Value → Shared → Prop} {s : Shared} {Q : Value → Shared → Prop}
open PySem.Calls PyProof.V PySem.W in
theorem collect_src {R : List Value → Shared → Prop} {T : String} {r d : Addr} {n : Nat} {P : Nat → Value → Prop} {OK : Heap → Prop} (K : KdlSrc prog w T r d n P OK) (hh : A.handled = none) (hok : OK s.heap) (hn : n ≤ sizeLine)
    (h : ∀ (h' : Heap) (tk : Nat) (acc : Array Value), (∀ b o, s.heap.get? b = some o → h'.get? b = some o) → s.heap.objs.size < h'.objs.size → ItemsOf P acc n → R acc.toList { s with heap := h', toks := tk }) :
    wpAny (model prog w) A (collect (.ref r)) R E s := by
  have hlt := K.there _ hok
  unfold collect
  refine wpAny_bind (wpAny_runValue (codeAny_builtin entry_proto_collect' ?_))
  rw [Around.under_plainId PySem.F.plain_proto_collect _]
  show wpAny _ A.in1 (newList [] >>= fun l => again (.builtin "list.__iadd__" ⟨[l, .ref r], []⟩)) _ _ s
  refine wpAny_bind (wpAny_newObj_type ?_)
  refine wpAny_pure ⟨plainId_quiet PySem.F.plain_list_iadd _, codeAny_builtin entry_list_iadd' ?_⟩
  rw [Around.under_plainId PySem.F.plain_list_iadd _]
  have hS₁ : (s.heap.push { cls := .type "list", data := .seq ([] : List Value).toArray }).get? s.heap.objs.size = some { cls := .type "list", data := .seq #[] } := Heap.get?_push_size _ rfl
  show wpAny _ A.in1 (Builtin.List.listExtendWith (.ref s.heap.objs.size) (.ref r) (.ref s.heap.objs.size)) _ _ _
  have key := kdl_extend (A := A) (s := { s with heap := s.heap.push { cls := .type "list", data := .seq ([] : List Value).toArray } })
    (R := fun (q : Result) (s' : Shared) => ∃ (h' : Heap) (tk : Nat) (acc' : Array Value) (c' : Nat), q = .ok (.ret (.ref s.heap.objs.size)) ∧ s' = { s with heap := h', toks := tk } ∧
      (∀ b o, s.heap.get? b = some o → h'.get? b = some o) ∧ h'.get? s.heap.objs.size = some { cls := .type "list", dict := none, data := .seq acc' c', slots := #[] } ∧ ItemsOf P acc' n)
    K hh (K.keep _ _ hok fun b _ o e => Heap.get?_push_of_some _ e) s.heap.objs.size (Nat.ne_of_gt hlt.1) (Nat.ne_of_gt hlt.2) (.ref s.heap.objs.size) 0 hS₁
    (fun h' tk acc' c' hk hS' hacc => ⟨h', tk, acc', c', rfl, rfl, fun b o e => hk b o (Nat.ne_of_lt (Heap.lt_size e)) (Heap.get?_push_of_some _ e), hS', hacc⟩) hn
  refine wpAny_mono key (fun fin s' x => ?_) fun e s' x => ?_
  · cases fin with
    | done f =>
      obtain ⟨h', tk, acc', c', e, rfl, hk, hS', hacc⟩ := x
      cases e
      show wpAny _ A (load s.heap.objs.size >>= _) _ _ _
      refine wpAny_bind (wpAny_load hS' ?_)
      exact wpAny_pure (h h' tk acc' hk (Heap.lt_size hS') hacc)
    | again c₁ =>
      refine ⟨x.1, codeAny_mono x.2 fun q s₂ y => ?_⟩
      obtain ⟨h', tk, acc', c', rfl, rfl, hk, hS', hacc⟩ := y
      show wpAny _ A (load s.heap.objs.size >>= _) _ _ _
      refine wpAny_bind (wpAny_load hS' ?_)
      exact wpAny_pure (h h' tk acc' hk (Heap.lt_size hS') hacc)
  · obtain ⟨_, _, _, _, e', _⟩ := x
    cases e'
open PySem.Calls PyProof.V in
theorem sorted_src {T : String} {r d : Addr} {n : Nat} {P : Nat → Value → Prop} {OK : Heap → Prop} {β : Type} {bs : List β} {enc : β → PyData} {R : Value → β → Prop} (K : PySem.W.KdlSrc prog w T r d n P OK) (hh : A.handled = none) (hok : OK s.heap) (hn : n ≤ sizeLine)
    (e : ∀ (h' : Heap) (tk : Nat) (us : List Value), (∀ b o, s.heap.get? b = some o → h'.get? b = some o) → us.length = n → (∀ j v, us[j]? = some v → P j v) → EachIs R us bs ∧ EachIs (fun v b => ∃ as, Reads h' v (enc b) as) us bs)
    (hal : AllAlike (bs.map enc)) (hk : PySem.W.Sortable (bs.map enc)) (hL : bs.length ≤ sizeLine) (hu : ∀ b, b ∈ bs → A.units + 2 + (enc b).depth < cLine)
    (h : ∀ (D : Addr) (h' : Heap) (tk ep : Nat) (out : List Value), s.heap.objs.size ≤ D → (∀ b o, s.heap.get? b = some o → h'.get? b = some o) → h'.get? D = some (seqObj "list" out.toArray ep) → out.length = bs.length → EachIs R out (bs.mergeSort (PySem.W.dataLe false enc)) → Q (.ref D) { s with heap := h', toks := tk }) :
    wpAny (model prog w) A (call (.builtin "sorted") [.ref r]) Q E s := by
  refine call_function_entry kind_sorted plain_sorted entry_sorted (args_sorted1 _) ?_
  unfold Builtin.«sorted»
  refine wpAny_bind (m := checkCount "sorted" 1 1 _) (wpAny_pure ?_)
  refine wpAny_bind (collect_src (A := A.in1) K hh hok hn fun h' tk acc hkp hlt hacc => ?_)
  have hl : acc.toList.length = n := by rw [Array.length_toList]; exact hacc.1
  refine wpAny_bind (wpAny_newList ?_ (by rw [hl]; exact hn))
  obtain ⟨e1, e2⟩ := e h' tk acc.toList hkp hl (fun j v e => hacc.2 j v (by rw [← Array.getElem?_toList]; exact e))
  have al : ∀ b ∈ bs, alike (enc b) (enc b) = true := fun b hb => hal _ (List.mem_map_of_mem hb) _ (List.mem_map_of_mem hb)
  have e3 := each_keep (h' := h'.push { cls := .type "list", data := .seq acc.toList.toArray }) (fun b o q => Heap.get?_push_of_some _ q) (each_lt (Nat.le_refl h'.objs.size) al e2)
  have hsz : s.heap.objs.size ≤ h'.objs.size := Nat.le_of_lt hlt
  have hg : wpAny (model prog w) A.in1 (call (.builtin "list.sort") [.ref h'.objs.size]) (fun _ s' => Q (.ref h'.objs.size) s') E { s with heap := h'.push { cls := .type "list", data := .seq acc.toList.toArray }, toks := tk } := by
    have ho : (h'.push { cls := .type "list", data := .seq acc.toList.toArray }).get? h'.objs.size = some (seqObj "list" acc.toList.toArray 0) := Heap.get?_push_size _ rfl
    refine PySem.W.list_sort_data (s := { s with heap := h'.push { cls := .type "list", data := .seq acc.toList.toArray }, toks := tk }) ho e1 e3 hal hk hL (fun b hb => by have := hu b hb; show A.units + 1 + 1 + _ < _; omega) fun out ho2 eo => ?_
    obtain ⟨ep, hep⟩ := sortedHeap_at (out := out.toArray) ho
    refine h _ _ _ ep out hsz (fun b o q => ?_) hep ho2 eo
    have q1 := hkp b o q
    have hb := Heap.lt_size q1
    rw [sortedHeap_old (Nat.ne_of_lt hb) (by rw [Heap.size_push]; exact Nat.lt_succ_of_lt hb)]
    exact Heap.get?_push_of_some _ q1
  refine wpAny_bind (wpAny_holding (wpAny_mono hg (fun _ s' x => ?_) fun _ _ e => e))
  exact wpAny_pure ⟨_, rfl, x⟩
end
section
variable {X : Cx} {W : Wd} {mu : Addr → Prop} {m : List Addr} {H : Hp}
theorem psr_keys : ∀ {kvs : List (D × D)} {ps : List (V × V)}, PsR W mu m H kvs ps → Reps W mu m H (kvs.map (·.1)) (ps.map (·.1))
  | [], _, h => by cases h; rfl
  | (k, d) :: r, _, h => by
    obtain ⟨x, y, t, rfl, h1, h2, h3⟩ := h
    exact ⟨x, _, rfl, h1, psr_keys h3⟩
theorem vals_nth : ∀ {xs : List V} {us : List Value}, xs.length = us.length → (∀ (j : Nat) (x : V) (u : Value), xs[j]? = some x → us[j]? = some u → RelV x u) → Vals xs us
  | [], [], _, _ => .nil
  | [], _ :: _, h, _ => by cases h
  | _ :: _, [], h, _ => by cases h
  | x :: xs, u :: us, h, k => .cons (k 0 x u rfl rfl) (vals_nth (by simpa using h) fun j y v h1 h2 => k (j + 1) y v h1 h2)
/-- a dict by its entries -/
theorem drd_es {pins : List (Addr × Obj)} {σ : L2.St} {s : Shared} {p : Addr} {kvs : List (D × D)} (I : Inv X pins σ H s) (dr : DRd W mu m H p kvs) : ∃ (es : Array DictEntry × Nat) (ps : List (V × V)), (p == sysModules) = false ∧ s.heap.DictRaw p es.1 es.2 ∧ EsR ps es.1.toList ∧ PsR W mu m H kvs ps ∧ es.1.size = kvs.length := by
  obtain ⟨es, h, kv, re⟩ := dr
  obtain ⟨hs, raw⟩ := raw_at I h
  obtain ⟨ps, er, pr⟩ := repE_ps re
  exact ⟨es, ps, hs, raw, er, pr, by rw [← es_len er, pr.length]⟩
/-- sorted(d) -/
theorem crSortedD (hc : X.calm = true) (hu : X.A.units + 66 < cLine) : CallR X (.builtin "sorted") (rO X bSortedD) := by
  intro pins s σ H xs us Q I rs ⟨W, mu, m, ds, d, c, ok, r, hd, q⟩
  unfold bSortedD at hd
  split at hd
  · rename_i kvs
    split at hd <;> cases hd
    rename_i r' e
    unfold sortD at e
    split at e <;> cases e
    rename_i hcnd
    simp only [Bool.and_eq_true, decide_eq_true_eq] at hcnd
    obtain ⟨⟨hal, hso⟩, hz⟩ := hcnd
    obtain ⟨hok, hal⟩ := alikes_ok hal
    obtain ⟨v, rfl, rv⟩ := rU1 r
    obtain ⟨p, rfl, dd⟩ := rv.dict
    obtain ⟨u, rfl, ru⟩ := vals1 rs
    cases ru
    obtain ⟨es, ps, hs, raw, er, pr, hsz⟩ := drd_es I dd
    have rk := psr_keys pr
    refine sorted_src (enc := D.py) (bs := kvs.map (·.1)) (R := fun v d => ∃ y, RelV y v ∧ Rep W mu m H d y) (KdlSrc.rawDict hs) (I.ok.hd hc) raw (by rw [hsz]; rw [List.length_map] at hz; exact hz) (fun h' tk us hk hl hP => ?_) hal (sortable_ok hso) hz (fun b hb => ?_) fun D h' tk ep out hD hk hep ho eo => ?_
    · have I' : Inv X pins σ H { s with heap := h', toks := tk } := I.kept (t' := tk) fun b o _ => hk b o (by assumption)
      refine reps_each I' c.1 hok rk (vals_nth (by rw [List.length_map, pr.length, ← hsz, hl]) fun j x u hx hu2 => ?_)
      rw [List.getElem?_map] at hx
      cases q2 : ps[j]? with
      | none => rw [q2] at hx; cases hx
      | some xy =>
        rw [q2] at hx
        cases hx
        obtain ⟨x, y⟩ := xy
        obtain ⟨hi, rx, _⟩ := es_at er q2
        obtain ⟨hi2, e2⟩ := hP j u hu2
        rw [e2]
        exact rx
    · have := ok_dep (List.all_eq_true.mp hok b hb)
      omega
    · obtain ⟨ys, hy1, hy2⟩ := each_reps eo
      have eq : (kvs.map (·.1)).mergeSort (PySem.W.dataLe false Ev.D.py) = (kvs.map (·.1)).mergeSort leD := by
        rfl
      rw [eq] at hy1
      have hlen : ys.length ≤ sizeLine := by rw [← hy1.length, List.length_mergeSort]; exact hz
      have hf : H D = none := I.hok.fresh hD
      exact ⟨.ref _, upd H D (.lst ys), I.laid (t' := tk) (fun b o q => hk b o q) hD ⟨hlen, out, ep, hy2, hep⟩, rfl, q _ _ (Ld.new hf) (rep_lstU ok hf hy1)⟩
  · exact crSorted hu pins s σ H xs us Q I rs ⟨W, mu, m, ds, d, c, ok, r, hd, q⟩
end
end Ev
end
section
set_option maxHeartbeats 4000000
namespace Ev
open PySem PySem.Spec PyProof.Rows L2
open PySem.W (EachIs AllAlike KdlSrc)
/-! ### views of a dict as arguments -/
def tVw (T : String) (td : TE) : TE := fun σ H Q => td σ H fun x H1 => ∃ p es, x = .ref p ∧ H1 p = some (DictO p es) ∧ ∀ v, H1 v = none → Q (.ref v) (upd H1 v (viewO T v p))
section
variable {X : Cx} {e : Expr} {td : TE} {apos cpos : Pos}
theorem pe_vals (he : PE X e td) (hbase : attributeBase e "values" X.env (eval e X.env) = eval e X.env) (hline : (apos.endLine == cpos.line) = true) : PE X (.Call (.Attribute e "values" apos) [] [] cpos) (tVw "dict_values" td) := by
  refine ⟨fun pins s σ H Q I h => ?_⟩
  refine wpAny_Call_method (T := "dict") (id := "dict.values") hbase rfl hline F.plainAttrs_dict F.slot_dict_values F.type_dict_values (thn (he.run pins s σ H _ I h) fun u s1 ⟨x, H1, I1, rx, p, es, ex, hd, q⟩ => ?_)
  subst ex
  obtain rfl : u = Value.ref p := rx
  obtain ⟨hs, raw⟩ := raw_at I1 hd
  obtain ⟨o, ho, hc, hdt⟩ := id raw
  refine ⟨raw.typeIs, fun a ea => by cases ea; exact ⟨o, ho, hc.2.1⟩, ?_⟩
  have fin : EP X pins σ Q (.ref s1.heap.objs.size) { s1 with heap := s1.heap.push { cls := .type "dict_values", data := .fields #[.ref p] } } :=
    ⟨.ref s1.heap.objs.size, _, I1.laid (t' := s1.toks) (a := s1.heap.objs.size) (o := viewO "dict_values" s1.heap.objs.size p) (fun b ob q => Heap.get?_push_of_some _ q) (Nat.le_refl _) (viewO_ok (Heap.get?_push_size _ rfl)), rfl, q _ (I1.hok.fresh (Nat.le_refl _))⟩
  show wpAny _ _ (callWith cpos (.builtin "dict.values") [.ref p] [] []) _ X.xe s1
  exact method_meetsIn F.slot_dict_values F.entry_dict_values rfl (PySem.evalArgs_none ⟨rfl, raw.typeIs, F.args_dict_values_1 _, _, meets_dict_values_raw p hs, ⟨_, _, raw⟩, fin⟩)
theorem pe_itms (he : PE X e td) (hbase : attributeBase e "items" X.env (eval e X.env) = eval e X.env) (hline : (apos.endLine == cpos.line) = true) : PE X (.Call (.Attribute e "items" apos) [] [] cpos) (tVw "dict_items" td) := by
  refine ⟨fun pins s σ H Q I h => ?_⟩
  refine wpAny_Call_method (T := "dict") (id := "dict.items") hbase rfl hline F.plainAttrs_dict F.slot_dict_items F.type_dict_items (thn (he.run pins s σ H _ I h) fun u s1 ⟨x, H1, I1, rx, p, es, ex, hd, q⟩ => ?_)
  subst ex
  obtain rfl : u = Value.ref p := rx
  obtain ⟨hs, raw⟩ := raw_at I1 hd
  obtain ⟨o, ho, hc, hdt⟩ := id raw
  refine ⟨raw.typeIs, fun a ea => by cases ea; exact ⟨o, ho, hc.2.1⟩, ?_⟩
  have fin : EP X pins σ Q (.ref s1.heap.objs.size) { s1 with heap := s1.heap.push { cls := .type "dict_items", data := .fields #[.ref p] } } :=
    ⟨.ref s1.heap.objs.size, _, I1.laid (t' := s1.toks) (a := s1.heap.objs.size) (o := viewO "dict_items" s1.heap.objs.size p) (fun b ob q => Heap.get?_push_of_some _ q) (Nat.le_refl _) (viewO_ok (Heap.get?_push_size _ rfl)), rfl, q _ (I1.hok.fresh (Nat.le_refl _))⟩
  show wpAny _ _ (callWith cpos (.builtin "dict.items") [.ref p] [] []) _ X.xe s1
  exact method_meetsIn F.slot_dict_items F.entry_dict_items rfl (PySem.evalArgs_none ⟨rfl, raw.typeIs, F.args_dict_items_1 _, _, meets_dict_items_raw p hs, ⟨_, _, raw⟩, fin⟩)
end
/-- a heap that holds all of another -/
def Ext (H H' : Hp) : Prop := ∀ a o, H a = some o → H' a = some o
def rVw (X : Cx) (T : String) (op : List (D × D) → Option D) : List V → Hp → VK → Prop := fun xs H Q => ∃ (W : Wd) (mu : Addr → Prop) (m : List Addr) (v p : Addr) (kvs : List (D × D)) (d : D), (W.K = X.K ∧ W.w = X.w) ∧ MuOk mu H ∧ xs = [.ref v] ∧ H v = some (viewO T v p) ∧ DRd W mu m H p kvs ∧ op kvs = some d ∧
  ∀ H' x, Ext H H' → Rep W mu m H' d x → Q x H'
theorem MuOk.ext {mu : Addr → Prop} {H H' : Hp} (h : MuOk mu H) (k : Ext H H') : MuOk mu H' := fun p w => let ⟨o, e, n⟩ := h p w; ⟨o, k p o e, n⟩
theorem Ext.le {mu : Addr → Prop} {H H' : Hp} (k : Ext H H') : Le mu H mu H' := ⟨fun a o e _ => k a o e, fun _ _ _ n => n⟩
theorem SRel.ext {W : Wd} {z : En} {m : List Addr} {ow : Ow} {ρ : Env} {A : AH} {σ : L2.St} {H H' : Hp} (S : SRel W z m ow ρ A σ H) (k : Ext H H') : SRel W z m ow ρ A σ H' ∧ Sm m H m H' := by
  have s : Sm m H m H' := ⟨⟨[], by simp⟩, fun a o e _ => k a o e, fun a o e => ⟨o, k a o e⟩, fun p h n => absurd h n⟩
  refine ⟨S.step s (S.hp.mono k.le S.ok fun q hq => ?_), s⟩
  obtain ⟨o, e⟩ := S.memH hq
  rw [e]
  exact k q o e
/-- tuples already laid are tracked -/
theorem takeF {X : Cx} {pins : List (Addr × Obj)} {σ : L2.St} {H0 : Hp} {s : Shared} {h' : Heap} {tk : Nat} {P : Addr → Obj → List V → Prop} (I0 : Inv X pins σ H0 s) : ∀ (L : List Addr) (H1 : Hp), Inv X pins σ H1 { s with heap := h', toks := tk } → L.Nodup →
    (∀ a ∈ L, s.heap.objs.size ≤ a ∧ H1 a = none ∧ ∃ ob vs, P a ob vs ∧ ∀ H2, ObjOk X.prog X.w H2 h' a (.frz ob (.tup vs))) →
    ∃ H2, Inv X pins σ H2 { s with heap := h', toks := tk } ∧ Ext H1 H2 ∧ ∀ a ∈ L, ∃ ob vs, P a ob vs ∧ H2 a = some (.frz ob (.tup vs))
  | [], H1, I1, _, _ => ⟨H1, I1, fun _ _ e => e, fun _ h => nomatch h⟩
  | a :: L, H1, I1, hn, h => by
    obtain ⟨hb, hnone, ob, vs, hP, ok⟩ := h a (List.mem_cons_self ..)
    have I2 : Inv X pins σ (upd H1 a (.frz ob (.tup vs))) { s with heap := h', toks := tk } := I1.take (h' := h') (t' := tk) (fun b ob _ e => e) (I0.fpOk hb hnone) (ok _)
    rw [List.nodup_cons] at hn
    obtain ⟨H2, I3, g, q⟩ := takeF I0 L (upd H1 a (.frz ob (.tup vs))) I2 hn.2 fun c hc => by
      obtain ⟨c1, c2, c3⟩ := h c (List.mem_cons_of_mem _ hc)
      exact ⟨c1, by rw [upd_ne (fun z => hn.1 (by rw [← z]; exact hc))]; exact c2, c3⟩
    refine ⟨H2, I3, fun b o e => g b o (by rw [upd_ne (ne_of_none e hnone)]; exact e), fun c hc => ?_⟩
    rcases List.mem_cons.mp hc with rfl | hc
    · exact ⟨ob, vs, hP, g _ _ upd_same⟩
    · exact q c hc
def opSortI (kvs : List (D × D)) : Option D := match sortD (kvs.map fun q => .tup [q.1, q.2]) with
  | some r => some (.lst r)
  | none => none
section
variable {X : Cx}
theorem vw_at {pins : List (Addr × Obj)} {σ : L2.St} {H : Hp} {s : Shared} {T : String} {v p : Addr} (I : Inv X pins σ H s) (h : H v = some (viewO T v p)) : s.heap.get? v = some { cls := .type T, data := .fields #[.ref p] } := (I.hok v _ h).1
theorem crSortI (hc : X.calm = true) (hu : X.A.units + 66 < cLine) : CallR X (.builtin "sorted") (rVw X "dict_items" opSortI) := by
  intro pins s σ H xs us Q I rs ⟨W, mu, m, v, p, kvs, d, c, ok, e, hv, dd, hd, q⟩
  subst e
  have := Vals.ref1 rs
  subst this
  unfold opSortI at hd
  split at hd <;> cases hd
  rename_i r' e
  unfold sortD at e
  split at e <;> cases e
  rename_i hcnd
  simp only [Bool.and_eq_true, decide_eq_true_eq] at hcnd
  obtain ⟨⟨hal, hso⟩, hz⟩ := hcnd
  obtain ⟨hok, hal⟩ := alikes_ok hal
  obtain ⟨es, ps, hs, raw, er, pr, hsz⟩ := drd_es I dd
  have hh := I.ok.hd hc
  have vw := vw_at I hv
  refine DT.sortedI (es := es.1) (ep := es.2) hh ⟨_, vw, rfl, rfl⟩ raw (by rw [hsz]; rw [List.length_map] at hz; exact hz) fun h' tk as hk hlt hl hG => ?_
  have nd : as.Nodup := List.Pairwise.imp (fun h => Nat.ne_of_lt h) hG.rise
  have I' : Inv X pins σ H { s with heap := h', toks := tk } := I.kept (t' := tk) hk
  -- the pairs
  obtain ⟨H2, I2, k2, tt⟩ := takeF (P := fun a ob vs => ob.dict = none ∧ ∃ j x y, as[j]? = some a ∧ ps[j]? = some (x, y) ∧ vs = [x, y]) I as H I' nd fun a ha => by
    obtain ⟨j, hj⟩ := List.mem_iff_getElem?.mp ha
    obtain ⟨en, he, hg⟩ := hG.pairs j a hj
    have hjl : j < ps.length := by
      rw [es_len er, ← hl]
      exact (List.getElem?_eq_some_iff.mp hj).1
    obtain ⟨⟨x, y⟩, hxy⟩ : ∃ q, ps[j]? = some q := ⟨ps[j], List.getElem?_eq_getElem hjl⟩
    obtain ⟨hi, rx, ry⟩ := es_at er hxy
    have een : en = es.1[j] := by
      rw [Array.getElem?_eq_getElem hi] at he
      exact (Option.some.inj he).symm
    have hge : s.heap.objs.size ≤ a := Nat.le_of_lt (hG.above a ha)
    refine ⟨hge, I.hok.fresh hge, _, [x, y], ⟨rfl, j, x, y, hj, hxy, rfl⟩, fun H2 => ⟨hg, by show 2 ≤ sizeLine; decide, [en.key, en.val], .cons (by rw [een]; exact rx) (.cons (by rw [een]; exact ry) .nil), ⟨_, hg, rfl, _, rfl⟩⟩⟩
  have reps : Reps W mu m H2 (kvs.map fun q => .tup [q.1, q.2]) (as.map V.ref) := by
    have al : as.length = kvs.length := by rw [hl, hsz]
    have gen : ∀ (kvs : List (D × D)) (ps : List (V × V)) (as : List Addr), PsR W mu m H kvs ps → as.length = kvs.length → (∀ (j : Nat) (a : Addr) (x y : V), as[j]? = some a → ps[j]? = some (x, y) → ∃ ob : Obj, ob.dict = none ∧ H2 a = some (.frz ob (.tup [x, y]))) → Reps W mu m H2 (kvs.map fun q => .tup [q.1, q.2]) (as.map V.ref) := by
      intro kvs
      induction kvs with
      | nil =>
        intro ps as pr hl h
        cases as with
        | nil => rfl
        | cons a as => cases hl
      | cons kd kvs ih =>
        intro ps as pr hl h
        obtain ⟨k, d⟩ := kd
        obtain ⟨x, y, t, rfl, r1, r2, r3⟩ := pr
        cases as with
        | nil => cases hl
        | cons a as =>
          obtain ⟨ob, o1, o2⟩ := h 0 a x y rfl rfl
          exact ⟨.ref a, _, rfl, ⟨a, [x, y], rfl, .inl ⟨ob, o2, o1⟩, x, _, rfl, r1.mono k2.le ok ⟨[], by simp⟩, y, _, rfl, r2.mono k2.le ok ⟨[], by simp⟩, rfl⟩, ih t as r3 (by simpa using hl) fun j a x y h1 h2 => h (j + 1) a x y h1 h2⟩
    refine gen kvs ps as pr al fun j a x y h1 h2 => ?_
    obtain ⟨ob, vs, ⟨o1, j', x', y', g1, g2, rfl⟩, o2⟩ := tt a (List.mem_of_getElem? h1)
    have ej : j' = j := by
      obtain ⟨l1, a1⟩ := List.getElem?_eq_some_iff.mp g1
      obtain ⟨l2, a2⟩ := List.getElem?_eq_some_iff.mp h1
      have pw := List.pairwise_iff_getElem.mp hG.rise
      rcases Nat.lt_trichotomy j' j with q | q | q
      · have := pw j' j l1 l2 q
        rw [a1, a2] at this
        exact absurd this (Nat.lt_irrefl _)
      · exact q
      · have := pw j j' l2 l1 q
        rw [a1, a2] at this
        exact absurd this (Nat.lt_irrefl _)
    subst ej
    rw [h2] at g2
    cases g2
    exact ⟨ob, o1, o2⟩
  have vals : Vals (as.map V.ref) (as.map Value.ref) := by
    clear reps tt nd hG hl
    induction as with
    | nil => exact .nil
    | cons a as ih => exact .cons rfl ih
  obtain ⟨e1, e2⟩ := reps_each I2 c.1 hok reps vals
  have al : ∀ b ∈ kvs.map (fun q => D.tup [q.1, q.2]), PySem.W.alike b.py b.py = true := fun b hb => hal _ (List.mem_map_of_mem hb) _ (List.mem_map_of_mem hb)
  have e3 := each_keep (enc := D.py) (h' := h'.push { cls := .type "list", data := .seq (as.map Value.ref).toArray }) (fun b o q => Heap.get?_push_of_some _ q) (each_lt (enc := D.py) (Nat.le_refl h'.objs.size) al e2)
  have ho : (h'.push { cls := .type "list", data := .seq (as.map Value.ref).toArray }).get? h'.objs.size = some (seqObj "list" (as.map Value.ref).toArray 0) := Heap.get?_push_size _ rfl
  refine PySem.W.list_sort_data (s := { s with heap := h'.push { cls := .type "list", data := .seq (as.map Value.ref).toArray }, toks := tk }) (enc := D.py) ho e1 e3 hal (sortable_ok hso) hz (fun b hb => ?_) fun out ho2 eo => ?_
  · have := ok_dep (List.all_eq_true.mp hok b hb)
    show X.A.units + 1 + 1 + _ < _
    omega
  obtain ⟨ep, hep⟩ := sortedHeap_at (out := out.toArray) ho
  obtain ⟨ys, hy1, hy2⟩ := each_reps eo
  have eq : (kvs.map fun q => D.tup [q.1, q.2]).mergeSort (PySem.W.dataLe false D.py) = (kvs.map fun q => D.tup [q.1, q.2]).mergeSort leD := by
    rfl
  rw [eq] at hy1
  have hlen : ys.length ≤ sizeLine := by rw [← hy1.length, List.length_mergeSort]; exact hz
  have hf : H2 h'.objs.size = none := I2.hok.fresh (Nat.le_refl _)
  refine ⟨.ref _, upd H2 h'.objs.size (.lst ys), I2.laid (t' := tk) (fun b o q => ?_) (Nat.le_refl _) ⟨hlen, out, ep, hy2, hep⟩, rfl, q _ _ (fun a o e => by rw [upd_ne (ne_of_none (k2 a o e) hf)]; exact k2 a o e) (rep_lstU (ok.ext k2) hf hy1)⟩
  have hb : b < h'.objs.size := Heap.lt_size q
  show (sortedHeap _ _ _ _).get? b = some o
  rw [sortedHeap_old (Nat.ne_of_lt hb) (by rw [Heap.size_push]; exact Nat.lt_succ_of_lt hb)]
  exact Heap.get?_push_of_some _ q
theorem psr_vals {W : Wd} {mu : Addr → Prop} {m : List Addr} {H : Hp} : ∀ {kvs : List (D × D)} {ps : List (V × V)}, PsR W mu m H kvs ps → Reps W mu m H (kvs.map (·.2)) (ps.map (·.2))
  | [], _, h => by cases h; rfl
  | (k, d) :: r, _, h => by
    obtain ⟨x, y, t, rfl, h1, h2, h3⟩ := h
    exact ⟨y, _, rfl, h2, psr_vals h3⟩
def opListV (kvs : List (D × D)) : Option D := some (.lst (kvs.map (·.2)))
def opSortV (kvs : List (D × D)) : Option D := match sortD (kvs.map (·.2)) with
  | some r => some (.lst r)
  | none => none
theorem valsV {es : Array DictEntry × Nat} {ps : List (V × V)} (er : EsR ps es.1.toList) {us : List Value} (hl : us.length = es.1.size) (h : ∀ (j : Nat) (v : Value), us[j]? = some v → ∃ hi : j < es.1.size, v = es.1[j].val) : Vals (ps.map (·.2)) us := vals_nth (by rw [List.length_map, es_len er, hl]) fun j x u hx hu => by
  rw [List.getElem?_map] at hx
  cases q2 : ps[j]? with
  | none => rw [q2] at hx; cases hx
  | some xy =>
    rw [q2] at hx
    cases hx
    obtain ⟨x, y⟩ := xy
    obtain ⟨hi, _, ry⟩ := es_at er q2
    obtain ⟨hi2, e2⟩ := h j u hu
    rw [e2]
    exact ry
theorem crListV (hc : X.calm = true) : CallR X (.type "list") (rVw X "dict_values" opListV) := by
  intro pins s σ H xs us Q I rs ⟨W, mu, m, v, p, kvs, d, c, ok, e, hv, dd, hd, q⟩
  subst e
  have := Vals.ref1 rs
  subst this
  cases hd
  obtain ⟨es, ps, hs, raw, er, pr, hsz⟩ := drd_es I dd
  obtain ⟨_, _, kv, _⟩ := id dd
  have hz : es.1.size ≤ sizeLine := by rw [hsz]; exact kv.len
  refine PySem.W.kdl_call (KdlSrc.rawValues (es := es.1) (ep := es.2)) (I.ok.hd hc) ⟨⟨_, vw_at I hv, rfl, rfl⟩, raw⟩ hz fun h' tk acc c' hk hD hacc => ?_
  have hl : acc.toList.length = es.1.size := by rw [Array.length_toList]; exact hacc.1
  have vals := valsV er hl fun j u hu => hacc.2 j u (by rw [← Array.getElem?_toList]; exact hu)
  have hf : H s.heap.objs.size = none := I.hok.fresh (Nat.le_refl _)
  have rr := psr_vals pr
  refine ⟨.ref _, upd H s.heap.objs.size (.lst (ps.map (·.2))), I.laid (t' := tk) hk (Nat.le_refl _) ⟨?_, acc.toList, c', vals, ?_⟩, rfl, q _ _ (fun a o e => by rw [upd_ne (ne_of_none e hf)]; exact e) (rep_lstU ok hf rr)⟩
  · rw [List.length_map, es_len er]
    exact hz
  · rw [hD]
theorem crSortV (hc : X.calm = true) (hu : X.A.units + 66 < cLine) : CallR X (.builtin "sorted") (rVw X "dict_values" opSortV) := by
  intro pins s σ H xs us Q I rs ⟨W, mu, m, v, p, kvs, d, c, ok, e, hv, dd, hd, q⟩
  subst e
  have := Vals.ref1 rs
  subst this
  unfold opSortV at hd
  split at hd <;> cases hd
  rename_i r' e
  unfold sortD at e
  split at e <;> cases e
  rename_i hcnd
  simp only [Bool.and_eq_true, decide_eq_true_eq] at hcnd
  obtain ⟨⟨hal, hso⟩, hz⟩ := hcnd
  obtain ⟨hok, hal⟩ := alikes_ok hal
  obtain ⟨es, ps, hs, raw, er, pr, hsz⟩ := drd_es I dd
  have rk := psr_vals pr
  refine sorted_src (enc := D.py) (bs := kvs.map (·.2)) (R := fun v d => ∃ y, RelV y v ∧ Rep W mu m H d y) (KdlSrc.rawValues (es := es.1) (ep := es.2)) (I.ok.hd hc) ⟨⟨_, vw_at I hv, rfl, rfl⟩, raw⟩ (by rw [hsz]; rw [List.length_map] at hz; exact hz) (fun h' tk us hk hl hP => ?_) hal (sortable_ok hso) hz (fun b hb => ?_) fun D h' tk ep out hD hk hep ho eo => ?_
  · have I' : Inv X pins σ H { s with heap := h', toks := tk } := I.kept (t' := tk) fun b o _ => hk b o (by assumption)
    exact reps_each I' c.1 hok rk (valsV er hl hP)
  · have := ok_dep (List.all_eq_true.mp hok b hb)
    omega
  · obtain ⟨ys, hy1, hy2⟩ := each_reps eo
    have eq : (kvs.map (·.2)).mergeSort (PySem.W.dataLe false Ev.D.py) = (kvs.map (·.2)).mergeSort leD := by
      rfl
    rw [eq] at hy1
    have hlen : ys.length ≤ sizeLine := by rw [← hy1.length, List.length_mergeSort]; exact hz
    have hf : H D = none := I.hok.fresh hD
    exact ⟨.ref _, upd H D (.lst ys), I.laid (t' := tk) (fun b o q => hk b o q) hD ⟨hlen, out, ep, hy2, hep⟩, rfl, q _ _ (fun a o e => by rw [upd_ne (ne_of_none e hf)]; exact e) (rep_lstU ok hf hy1)⟩
/-- f(e.values()), f(e.items()) -/
inductive VF where
  | listV | sortV | sortI
def vwD : VF → D → Option D
  | .listV, .dct kvs => opListV kvs
  | .sortV, .dct kvs => opSortV kvs
  | .sortI, .dct kvs => opSortI kvs
  | _, _ => none
theorem vw_w {W : Wd} {z : En} {Wx : WX} {bb : Bool} {T : String} {op : List (D × D) → Option D} {vf : VF} {f : Env → M D} {σ : L2.St} {H : Hp} {Q : VK} (c : CtxOk X W) (hop : ∀ d x, vwD vf d = some x → ∃ kvs, d = .dct kvs ∧ op kvs = some x)
    (q : TEv W z Wx bb (fun ρ => (f ρ).bind fun d => fun A => ofO (vwD vf (deref A d)) A) σ H Q) : tVw T (TEv W z Wx true f) σ H fun x H1 => rVw X T op [x] H1 Q := by
  obtain ⟨m, ow, ρ, A, S, q⟩ := q
  refine te_then (fa := f) S q fun m1 H1 A1 d v s1 S1 r1 q1 => ?_
  obtain ⟨d', e, q2⟩ := ofO_out q1
  obtain ⟨kvs, ed, eo⟩ := hop _ _ e
  have rd := r1.der S1
  rw [ed] at rd
  obtain ⟨p, rfl, dd⟩ := rd.dict
  obtain ⟨es, hp, kv, re⟩ := id dd
  refine ⟨p, es, rfl, hp, fun vv hvv => ?_⟩
  have S2 := S1.laid (o := viewO T vv p) hvv
  have k1 : Ext H1 (upd H1 vv (viewO T vv p)) := fun a o e => by rw [upd_ne (ne_of_none e hvv)]; exact e
  refine ⟨W, _, m1, vv, p, kvs, d', ⟨c.1.symm, c.2.2.symm⟩, S2.ok, rfl, upd_same, ⟨es, k1 _ _ hp, kv, re.mono k1.le S1.ok ⟨[], by simp⟩⟩, eo, fun H' x k rv => ?_⟩
  obtain ⟨S3, s3⟩ := S2.ext k
  exact OutG.later q2 ((Sm.laid hvv).trans s3) m1 H' x (Sm.refl _ _) S3 (repx rv)
theorem hop_lv (d : D) (x : D) (h : vwD .listV d = some x) : ∃ kvs, d = .dct kvs ∧ opListV kvs = some x := by
  cases d <;> first | exact ⟨_, rfl, h⟩ | cases h
theorem hop_sv (d : D) (x : D) (h : vwD .sortV d = some x) : ∃ kvs, d = .dct kvs ∧ opSortV kvs = some x := by
  cases d <;> first | exact ⟨_, rfl, h⟩ | cases h
theorem hop_si (d : D) (x : D) (h : vwD .sortI d = some x) : ∃ kvs, d = .dct kvs ∧ opSortI kvs = some x := by
  cases d <;> first | exact ⟨_, rfl, h⟩ | cases h
section
variable {W : Wd} {z : En} {Wx : WX} {bb : Bool} {e : Expr} {f : Env → M D} {p pos apos cpos : Pos}
theorem ge_lv (c : CtxOk X W) (hc : X.calm = true) (hg : Gl X "list") (hm : X.mg "list" = none) (h : GE X W z Wx true e f) (hb : attributeBase e "values" X.env (eval e X.env) = eval e X.env) (hl : (apos.endLine == cpos.line) = true) :
    GE X W z Wx bb (.Call (.Name "list" p) [.Call (.Attribute e "values" apos) [] [] cpos] [] pos) (fun ρ => (f ρ).bind fun d => fun A => ofO (vwD .listV (deref A d)) A) :=
  pe_weak (pe_callTy (crListV hc) hg hm boot_list (pa_cons (pe_vals h hb hl) pa_nil rfl) (by decide) (by decide) rfl rfl) fun σ H Q q => vw_w c hop_lv q
theorem ge_sv (c : CtxOk X W) (hc : X.calm = true) (hu : X.A.units + 66 < cLine) (hg : Gl X "sorted") (hm : X.mg "sorted" = none) (h : GE X W z Wx true e f) (hb : attributeBase e "values" X.env (eval e X.env) = eval e X.env) (hl : (apos.endLine == cpos.line) = true) :
    GE X W z Wx bb (.Call (.Name "sorted" p) [.Call (.Attribute e "values" apos) [] [] cpos] [] pos) (fun ρ => (f ρ).bind fun d => fun A => ofO (vwD .sortV (deref A d)) A) :=
  pe_weak (pe_callB (crSortV hc hu) hg hm boot_sorted (pa_cons (pe_vals h hb hl) pa_nil rfl) (by decide) (by decide) rfl rfl) fun σ H Q q => vw_w c hop_sv q
theorem ge_si (c : CtxOk X W) (hc : X.calm = true) (hu : X.A.units + 66 < cLine) (hg : Gl X "sorted") (hm : X.mg "sorted" = none) (h : GE X W z Wx true e f) (hb : attributeBase e "items" X.env (eval e X.env) = eval e X.env) (hl : (apos.endLine == cpos.line) = true) :
    GE X W z Wx bb (.Call (.Name "sorted" p) [.Call (.Attribute e "items" apos) [] [] cpos] [] pos) (fun ρ => (f ρ).bind fun d => fun A => ofO (vwD .sortI (deref A d)) A) :=
  pe_weak (pe_callB (crSortI hc hu) hg hm boot_sorted (pa_cons (pe_itms h hb hl) pa_nil rfl) (by decide) (by decide) rfl rfl) fun σ H Q q => vw_w c hop_si q
end
end
end Ev
end
section
set_option maxHeartbeats 4000000
namespace Ev
open PySem PySem.Spec PyProof.Rows L2
/-! ### sorted(set(..)): ascending rows -/
theorem pw_uniq {α : Type} {f : α → Int} : ∀ {l1 l2 : List α}, l1.Pairwise (fun a b => f a < f b) → l2.Pairwise (fun a b => f a < f b) → (∀ a, a ∈ l1 ↔ a ∈ l2) → l1 = l2
  | [], [], _, _, _ => rfl
  | [], b :: l2, _, _, h => by
    have := (h b).mpr List.mem_cons_self
    cases this
  | a :: l1, [], _, _, h => by
    have := (h a).mp List.mem_cons_self
    cases this
  | a :: l1, b :: l2, h1, h2, h => by
    obtain ⟨a1, a2⟩ := List.pairwise_cons.mp h1
    obtain ⟨b1, b2⟩ := List.pairwise_cons.mp h2
    have e : a = b := by
      rcases List.mem_cons.mp ((h a).mp List.mem_cons_self) with e | e
      · exact e
      · rcases List.mem_cons.mp ((h b).mpr List.mem_cons_self) with e' | e'
        · exact e'.symm
        · have x1 := b1 a e
          have x2 := a1 b e'
          omega
    subst e
    rw [pw_uniq a2 b2 fun c => ⟨fun hc => ?_, fun hc => ?_⟩]
    · rcases List.mem_cons.mp ((h c).mp (List.mem_cons_of_mem _ hc)) with e | e
      · subst e
        have := a1 c hc
        omega
      · exact e
    · rcases List.mem_cons.mp ((h c).mpr (List.mem_cons_of_mem _ hc)) with e | e
      · subst e
        have := b1 c hc
        omega
      · exact e
/-- put in its place, once -/
def insF {α : Type} (f : α → Int) (k : α) : List α → List α
  | [] => [k]
  | x :: r => if f k < f x then k :: x :: r else if f k = f x then x :: r else x :: insF f k r
def sortF {α : Type} (f : α → Int) : List α → List α
  | [] => []
  | k :: r => insF f k (sortF f r)
theorem insF_sub {α : Type} {f : α → Int} {k y : α} : ∀ {l : List α}, y ∈ insF f k l → y = k ∨ y ∈ l
  | [], h => .inl (by simpa [insF] using h)
  | x :: r, h => by
    unfold insF at h
    split at h
    · rcases List.mem_cons.mp h with e | e
      · exact .inl e
      · exact .inr e
    · split at h
      · exact .inr h
      · rcases List.mem_cons.mp h with e | e
        · exact .inr (e ▸ List.mem_cons_self)
        · rcases insF_sub e with e | e
          · exact .inl e
          · exact .inr (List.mem_cons_of_mem _ e)
theorem insF_sup {α : Type} {f : α → Int} {k y : α} : ∀ {l : List α}, (∀ x ∈ l, f k = f x → k = x) → (y = k ∨ y ∈ l) → y ∈ insF f k l
  | [], _, h => by
    rcases h with h | h
    · subst h
      exact List.mem_cons_self
    · cases h
  | x :: r, hi, h => by
    unfold insF
    split
    · rcases h with h | h
      · subst h
        exact List.mem_cons_self
      · exact List.mem_cons_of_mem _ h
    · split
      · rename_i e
        have := hi x List.mem_cons_self e
        subst this
        rcases h with h | h
        · subst h
          exact List.mem_cons_self
        · exact h
      · rcases h with h | h
        · exact List.mem_cons_of_mem _ (insF_sup (fun z hz => hi z (List.mem_cons_of_mem _ hz)) (.inl h))
        · rcases List.mem_cons.mp h with e | e
          · exact e ▸ List.mem_cons_self
          · exact List.mem_cons_of_mem _ (insF_sup (fun z hz => hi z (List.mem_cons_of_mem _ hz)) (.inr e))
theorem insF_pw {α : Type} {f : α → Int} {k : α} : ∀ {l : List α}, l.Pairwise (fun a b => f a < f b) → (insF f k l).Pairwise (fun a b => f a < f b)
  | [], _ => by simp [insF]
  | x :: r, h => by
    obtain ⟨h1, h2⟩ := List.pairwise_cons.mp h
    unfold insF
    split
    · rename_i c
      refine List.pairwise_cons.mpr ⟨fun y hy => ?_, h⟩
      rcases List.mem_cons.mp hy with e | e
      · subst e
        exact c
      · have := h1 y e
        omega
    · split
      · exact h
      · refine List.pairwise_cons.mpr ⟨fun y hy => ?_, insF_pw h2⟩
        rcases insF_sub hy with e | e
        · subst e
          omega
        · exact h1 y e
theorem sortF_pw {α : Type} {f : α → Int} : ∀ l : List α, (sortF f l).Pairwise (fun a b => f a < f b)
  | [] => List.Pairwise.nil
  | k :: r => insF_pw (sortF_pw r)
theorem sortF_mem {α : Type} {f : α → Int} {y : α} : ∀ {l : List α}, (∀ a ∈ l, ∀ b ∈ l, f a = f b → a = b) → (y ∈ sortF f l ↔ y ∈ l)
  | [], _ => by simp [sortF]
  | k :: r, hi => by
    have hr : ∀ {y : α}, y ∈ sortF f r ↔ y ∈ r := sortF_mem fun a ha b hb => hi a (List.mem_cons_of_mem _ ha) b (List.mem_cons_of_mem _ hb)
    unfold sortF
    refine ⟨fun h => ?_, fun h => insF_sup (fun x hx => hi k List.mem_cons_self x (List.mem_cons_of_mem _ (hr.mp hx))) ?_⟩
    · rcases insF_sub h with e | e
      · exact e ▸ List.mem_cons_self
      · exact List.mem_cons_of_mem _ (hr.mp e)
    · rcases List.mem_cons.mp h with e | e
      · exact .inl e
      · exact .inr (hr.mpr e)
theorem code_inj {B : Int} : ∀ {a b : List Int}, a.length = b.length → TS.Bd B a → TS.Bd B b → TS.code B a = TS.code B b → a = b
  | [], [], _, _, _, _ => rfl
  | [], _ :: _, h, _, _, _ => by cases h
  | _ :: _, [], h, _, _, _ => by cases h
  | x :: a, y :: b, h, ha, hb, e => by
    have hl : a.length = b.length := by simpa using h
    have ha' : TS.Bd B a := fun m hm => ha m (List.mem_cons_of_mem _ hm)
    have hb' : TS.Bd B b := fun m hm => hb m (List.mem_cons_of_mem _ hm)
    have exy : x = y := by
      rcases Int.lt_trichotomy x y with c | c | c
      · have := TS.code_lt hl ha' hb' c
        omega
      · exact c
      · have := TS.code_lt hl.symm hb' ha' c
        omega
    subst exy
    rw [code_inj hl ha' hb' ?_]
    rcases Int.lt_trichotomy (TS.code B a) (TS.code B b) with c | c | c
    · have := (TS.code_same (d := x) hl).mpr c
      omega
    · exact c
    · have := (TS.code_same (d := x) hl.symm).mpr c
      omega
def tups? : List D → Option (List (List Int))
  | [] => some []
  | .tup ds :: r => match ints? ds, tups? r with
    | some k, some t => some (k :: t)
    | _, _ => none
  | _ => none
def okT : List (List Int) → Bool
  | [] => false
  | k :: r => decide (1 ≤ k.length) && (k :: r).all fun q => decide (q.length = k.length) && q.all fun i => decide (0 ≤ i) && decide (i < 64)
def idI (i : Int) : Int := i
/-- the ascending row of what is in it -/
def ssD : D → Option D
  | .tup l => match ints? l with
    | some ns => if ns.length < 63 then some (.lst ((sortF idI ns).map .int)) else none
    | none => none
  | .lst l => match ints? l with
    | some ns => if decide (ns.length < 4000) && (decide (ns.length < 63) || ns.all fun i => decide (0 ≤ i) && decide (i < 63)) then some (.lst ((sortF idI ns).map .int)) else none
    | none => match tups? l with
    | some ks => if ks.length < 64 && okT ks then some (.lst ((sortF (TS.code 64) ks).map fun k => .tup (k.map .int))) else none
    | none => none
  | _ => none
end Ev
end
section
set_option maxHeartbeats 4000000
namespace Ev
open PySem PySem.Spec PyProof.Rows L2
section
variable {P : Program} {w : World} {A : Around} {E : Value → Shared → Prop} {s : Shared}
set_option maxHeartbeats 3200000 in
theorem call_set_lstI {l : Addr} {items : Array Value} (ns : List Int) {Q : Value → Shared → Prop} (hh : A.handled = none) (hl : s.heap.IsList l items) (hit : IntsAre items.toList ns) (hb : ns.length + 1 < scanBound)
    (h : ∀ (h' : Heap) (tk c : Nat), SetR w h' s.heap.objs.size (fun j => decide (j ∈ ns)) c → c ≤ ns.length → (∀ b o, s.heap.get? b = some o → h'.get? b = some o) → Q (.ref s.heap.objs.size) { s with heap := h', toks := tk }) :
    wpAny (model P w) A (call (.type "set") [.ref l]) Q E s := by
  have hisz : items.size = ns.length := by
    have q := IntsAre.length hit
    rw [Array.length_toList] at q
    exact q
  obtain ⟨c, tl, hmro⟩ := F.called_set.mro
  have hmade := F.called_set.made
  have hsub := F.called_set.sub
  refine wpAny_call (codeAny_of_tree ?_)
  show wpAny _ _ (callAny (.type "set") _) _ _ _
  refine wpAny_pure ⟨Code.quiet_builtin _ (by decide +kernel), codeAny_builtin F.entry_type_call ?_⟩
  rw [Around.under_plain (weight_type_call_type "set" [.ref l] []) rfl]
  have h1 := F.called_set.notType
  have h2 := F.called_set.canCreate
  have hct := F.typeCall_set_1 (.ref l)
  repeat (any_goals (first | assumption | wp_step))

  refine codeAny_mono (code_set_led1 (.ref l) (E := E) (Q₁ := fun obj s₁ => obj = .ref s.heap.objs.size ∧ s₁ = { s with heap := s.heap.push { cls := .type "set", dict := none, data := .set #[] 0 (.fresh 0 0 (!w.params.followText "set-order")) } }) ⟨rfl, rfl⟩) fun r s₁ hr => ?_
  cases r with
  | error e => exact hr
  | ok fl =>
    cases fl with
    | ret obj =>
      obtain ⟨rfl, rfl⟩ := hr
      have hS : (s.heap.push { cls := .type "set", dict := none, data := .set #[] 0 (.fresh 0 0 (!w.params.followText "set-order")) }).get? s.heap.objs.size = some { cls := .type "set", dict := none, data := .set #[] 0 (.fresh 0 0 (!w.params.followText "set-order")) } := Heap.get?_push_size _ rfl
      have hT : Shared.TypeIs { s with heap := s.heap.push { cls := .type "set", dict := none, data := .set #[] 0 (.fresh 0 0 (!w.params.followText "set-order")) } } (.ref s.heap.objs.size) "set" := ⟨_, hS, rfl⟩
      have hli := F.called_set.init.lookup
      have hbi := F.called_set.init.bind (.ref s.heap.objs.size)
      repeat (any_goals (first | assumption | wp_step))

      refine codeAny_mono (codeAny_call_builtin (R := wants (fun r s₂ => r = .none ∧ ∃ h' tk c, s₂ = { s with heap := h', toks := tk } ∧ SetR w h' s.heap.objs.size (fun j => decide (j ∈ ns)) c ∧ c ≤ ns.length ∧
          (∀ b o, s.heap.get? b = some o → h'.get? b = some o)) E) F.called_set.init.plain F.entry_set_init (check_set_init_1 hT ?_)) fun r₂ s₂ hr₂ => ?_
      · obtain ⟨ol, hol, hcl, nl, hdl⟩ := hl
        obtain ⟨ocls, odict, odata, oslots⟩ := ol
        simp only at hcl hdl
        subst hcl; subst hdl
        have hol' : (s.heap.push { cls := .type "set", dict := none, data := .set #[] 0 (.fresh 0 0 (!w.params.followText "set-order")) }).get? l = some { cls := .type "list", dict := odict, data := .seq items nl, slots := oslots } := Heap.get?_push_of_some _ hol
        have hsls := F.sub_list_set
        have hslf := F.sub_list_frozenset
        have hne : (Value.type "list" == Value.type "dict") = false := by decide
        have hl1 : (s.heap.push { cls := .type "set", dict := none, data := .set #[] 0 (.fresh 0 0 (!w.params.followText "set-order")) }).IsList l items := ⟨_, hol', rfl, nl, rfl⟩
        unfold Builtin.«set.__init__» noKeywords Builtin.Frozenset.updateFrom
        generalize hPI : pyIter = PI
        wp_walk
        subst hPI

        refine wpAny_pyIter_list hl1 ?_
        refine wpAny_bind (wpAny_runValue ?_)
        have hlS : l < s.heap.objs.size := Heap.lt_size hol
        have hh3 : A.in1.in1.in1.handled = none := by simp [hh]
        have hz1 : (s.heap.push { cls := .type "set", dict := none, data := .set #[] 0 (.fresh 0 0 (!w.params.followText "set-order")) }).objs.size = s.heap.objs.size + 1 := Heap.size_push ..
        have hneI : l ≠ (s.heap.push { cls := .type "set", dict := none, data := .set #[] 0 (.fresh 0 0 (!w.params.followText "set-order")) }).objs.size := by
          rw [Heap.size_push]; exact Nat.ne_of_lt (Nat.lt_succ_of_lt hlS)
        have hSf : s.heap.objs.size ∉ [(s.heap.push { cls := .type "set", dict := none, data := .set #[] 0 (.fresh 0 0 (!w.params.followText "set-order")) }).objs.size, l] := by
          rw [Heap.size_push]; simp only [List.mem_cons, List.mem_singleton, List.not_mem_nil, or_false, not_or]
          exact ⟨Nat.ne_of_lt (Nat.lt_succ_self _), Nat.ne_of_gt hlS⟩
        have hval : ∀ (i : Nat) (v : Value), items[i]? = some v → ∃ k t, ns[i]? = some k ∧ v = .int k t := fun i v hv => by
          have hi : i < ns.length := by rw [← hisz]; exact (Array.getElem?_eq_some_iff.mp hv).1
          obtain ⟨t, e⟩ := PyProof.Rows.IntsAre.int_at hit i v (by rw [Array.getElem?_toList]; exact hv)
          refine ⟨ns[i], t, List.getElem?_eq_getElem hi, ?_⟩
          rw [e, List.getD_eq_getElem?_getD, List.getElem?_eq_getElem hi] <;> rfl
        refine set_update_ints ((Walks.list hh3 _ l hneI items).toS) s.heap.objs.size
          hSf ns hisz hb hval (items.size - 0) 0 _ (by omega) (Nat.zero_le _)
          ⟨⟨_, Heap.get?_push_size _ rfl, rfl, rfl⟩, (hl1.push _)⟩ ?hS0 ?hR
        case hS0 =>
          have hget : ((s.heap.push { cls := .type "set", dict := none, data := .set #[] 0 (.fresh 0 0 (!w.params.followText "set-order")) }).push { cls := .type "list_iterator", data := .fields #[.ref l, .int 0 0] }).get? s.heap.objs.size
              = some { cls := .type "set", dict := none, data := .set #[] 0 (.fresh 0 0 (!w.params.followText "set-order")) } := Heap.get?_push_of_some _ hS
          exact ⟨0, Nat.le_refl 0, setR_new_at hget⟩
        case hR =>
          intro s' c' hm hc' hS'
          obtain ⟨h', g2, d', tk', os'⟩ := s'
          have eg : g2 = s.gens := hm.gens
          have ed : d' = s.drawn := hm.drawn
          have eo : os' = s.os := hm.os
          subst eg; subst ed; subst eo
          show wpAny _ _ _ _ _ _
          refine wpAny_pure ?_
          show wpAny _ _ (ret Value.none) _ _ _
          rw [hisz] at hc'
          refine wpAny_pure ⟨rfl, h', tk', c', rfl, hS', hc', fun b o e => ?_⟩
          have hb0 : b < s.heap.objs.size := Heap.lt_size e
          have hb1 : b ≠ s.heap.objs.size := Nat.ne_of_lt hb0
          have hb2 : b ≠ (s.heap.push { cls := .type "set", dict := none, data := .set #[] 0 (.fresh 0 0 (!w.params.followText "set-order")) }).objs.size := by
            rw [Heap.size_push]; exact Nat.ne_of_lt (Nat.lt_succ_of_lt hb0)
          exact hm.heap b o (by simp only [List.mem_cons, List.mem_singleton, List.not_mem_nil, or_false, not_or]; exact ⟨hb1, hb2⟩) (Heap.get?_push_of_some _ (Heap.get?_push_of_some _ e))

      · cases r₂ with
        | error e => exact hr₂
        | ok fl₂ =>
          cases fl₂ with
          | ret r =>
            obtain ⟨rfl, h', tk, c', rfl, hS', hc', hk'⟩ := hr₂
            repeat (any_goals (first | assumption | wp_step))
            exact h _ _ _ hS' hc' hk'
          | _ => exact hr₂.elim
    | _ => exact hr.elim

end
/-- how many there are -/
theorem nd_len : ∀ {l L : List Int}, l.Nodup → (∀ x ∈ l, x ∈ L) → l.length ≤ L.length
  | [], _, _, _ => Nat.zero_le _
  | x :: l, L, h, hs => by
    obtain ⟨h1, h2⟩ := List.nodup_cons.mp h
    have hx := hs x List.mem_cons_self
    have := nd_len (L := L.erase x) h2 fun y hy => (List.mem_erase_of_ne (fun (e : y = x) => h1 (e ▸ hy))).mpr (hs y (List.mem_cons_of_mem _ hy))
    rw [List.length_erase_of_mem hx] at this
    have : 0 < L.length := List.length_pos_of_mem hx
    simp only [List.length_cons]
    omega
theorem setR_few {w : World} {h : Heap} {a : Addr} {ns : List Int} {c : Nat} (r : SetR w h a (fun j => decide (j ∈ ns)) c) (hn : ∀ i ∈ ns, 0 ≤ i ∧ i < 63) : c < 64 := by
  obtain ⟨o, es, ep, t, _, _, _, _, nd, hS, _, _, hc, _⟩ := r
  have := nd_len (L := (List.range 63).map fun (i : Nat) => (i : Int)) nd fun x hx => by
    have hx' := of_decide_eq_true ((hS x).mpr hx)
    obtain ⟨h0, h1⟩ := hn x hx'
    exact List.mem_map.mpr ⟨x.toNat, List.mem_range.mpr (by omega), by omega⟩
  rw [List.length_map, List.length_map, List.length_range, Array.length_toList] at this
  omega
end Ev
end
section
set_option maxHeartbeats 4000000
namespace Ev
open PySem PySem.Spec PyProof.Rows L2
/-- the set of a row, known by its ascending row r -/
inductive SetV (X : Cx) (W : Wd) (mu : Addr → Prop) (m : List Addr) (H : Hp) (a : Addr) : List D → Prop where
  | iset (ns : List Int) (S : Int → Bool) (n : Nat) (ho : H a = some (SetO X.w a S n)) (h64 : n < 64) (hs : ∀ k, S k = true ↔ k ∈ ns) : SetV X W mu m H a ((sortF idI ns).map .int)
  | tset (ks : List (List Int)) (L : List (Addr × List Int)) (d : Nat) (ho : H a = some (SetTO X.prog X.w a L)) (h1 : 1 ≤ d) (hk : ∀ k ∈ ks, k.length = d ∧ TS.Bd 64 k) (hr : ∀ p ∈ L, Rep W mu m H (.tup (p.2.map .int)) (.ref p.1))
      (hm : ∀ k, k ∈ L.map (·.2) ↔ k ∈ ks) : SetV X W mu m H a ((sortF (TS.code 64) ks).map fun k => .tup (k.map .int))
def rSs (X : Cx) : List V → Hp → VK → Prop := fun xs H Q => ∃ (W : Wd) (mu : Addr → Prop) (m : List Addr) (x : D) (r : List D), (W.K = X.K ∧ W.w = X.w) ∧ MuOk mu H ∧ RpsU W mu m H [x] xs ∧ ssD x = some (.lst r) ∧
  ∀ a o, H a = none → SetV X W mu m (upd H a o) a r → Q (.ref a) (upd H a o)
def rSo (X : Cx) : List V → Hp → VK → Prop := fun xs H Q => ∃ (W : Wd) (mu : Addr → Prop) (m : List Addr) (a : Addr) (r : List D), (W.K = X.K ∧ W.w = X.w) ∧ MuOk mu H ∧ xs = [.ref a] ∧ SetV X W mu m H a r ∧
  ∀ H' v, Ld H H' → Rep W mu m H' (.lst r) v → Q v H'
section
variable {X : Cx} {W : Wd} {mu : Addr → Prop} {m : List Addr} {H : Hp} {Q : VK}
theorem reps_ns2 : ∀ {ns : List Int}, Reps W mu m H (ns.map D.int) (ns.map V.int)
  | [] => rfl
  | n :: ns => ⟨.int n, _, rfl, rfl, reps_ns2⟩
theorem rep_sqT {K : PySem.W.Frag} (c : W.K = K) {p : Addr} {k : List Int} (h : Rep W mu m H (.tup (k.map .int)) (.ref p)) : SqT K H p (k.map V.int) := by
  obtain ⟨p', vs, e', h2, h3⟩ := h
  cases e'
  have ev : vs = k.map V.int := by
    clear h2
    induction k generalizing vs with
    | nil => exact h3
    | cons n ns ih =>
      obtain ⟨v, t, e1, e2, e3⟩ := h3
      subst e1
      cases e2
      rw [ih _ e3]
      rfl
  subst ev
  rw [← c]
  exact h2.t
theorem crSo (hc : X.calm = true) : CallR X (.builtin "sorted") (rSo X) := by
  intro pins s σ H xs us Q I rs ⟨W, mu, m, a, r, c, ok, e, sv, q⟩
  cases sv with
  | iset ns S n ho h64 hs =>
    refine cr_sortedSet hc pins s σ H xs us Q I rs ⟨a, S, n, e, ho, h64, fun ns' p pw hm _ hp => ?_⟩
    have en : ns' = sortF idI ns := pw_uniq (f := idI) pw (sortF_pw _) fun k => by
      rw [hm, hs, sortF_mem (f := idI) fun a _ b _ h => h]
    rw [en]
    exact q _ _ (Ld.new hp) (rep_lstU ok hp reps_ns2)
  | tset ks L d ho h1 hk hr hm =>
    have hL : ∀ p ∈ L, p.2 ∈ ks := fun p hp => (hm p.2).mp (List.mem_map_of_mem hp)
    refine cr_sortedT hc pins s σ H xs us Q I rs ⟨a, L, d, 64, e, ho, fun p hp => ?_, h1, fun p hp => hk _ (hL p hp), fun L' p pm nd hz pw hp => ?_⟩
    · exact rep_sqT c.1 (hr p hp)
    · have inj : ∀ a ∈ ks, ∀ b ∈ ks, TS.code 64 a = TS.code 64 b → a = b := fun a ha b hb h => code_inj ((hk a ha).1.trans (hk b hb).1.symm) (hk a ha).2 (hk b hb).2 h
      have hL' : ∀ k, k ∈ L'.map (·.2) ↔ k ∈ ks := fun k => by
        rw [← hm]
        exact (pm.map (·.2)).mem_iff
      have pw' : (L'.map (·.2)).Pairwise fun a b => TS.code 64 a < TS.code 64 b := by
        have p1 : (L'.map (·.2)).Pairwise fun a b => TS.code 64 a ≤ TS.code 64 b := List.pairwise_map.mpr pw
        refine List.Pairwise.imp_of_mem (R := fun a b => TS.code 64 a ≤ TS.code 64 b ∧ a ≠ b) (fun {a b} ha hb h => ?_) (p1.and nd)
        have : TS.code 64 a ≠ TS.code 64 b := fun z => h.2 (inj a ((hL' a).mp ha) b ((hL' b).mp hb) z)
        have := h.1
        omega
      have en : L'.map (·.2) = sortF (TS.code 64) ks := pw_uniq pw' (sortF_pw _) fun k => by
        rw [hL', sortF_mem inj]
      refine q _ _ (Ld.new hp) (rep_lstU ok hp ?_)
      rw [← en]
      have hr' : ∀ p ∈ L', Rep W mu m H (.tup (p.2.map .int)) (.ref p.1) := fun p hp => hr p (pm.mem_iff.mp hp)
      clear pm nd pw pw' en hL' hp hz
      induction L' with
      | nil => rfl
      | cons q L' ih => exact ⟨_, _, rfl, hr' q List.mem_cons_self, ih fun p hp => hr' p (List.mem_cons_of_mem _ hp)⟩
theorem tups_reps : ∀ {l : List D} {vs : List V} {ks : List (List Int)}, tups? l = some ks → Reps W mu m H l vs → ∃ L : List (Addr × List Int), vs = L.map (fun p => V.ref p.1) ∧ ks = L.map (·.2) ∧ ∀ p ∈ L, Rep W mu m H (.tup (p.2.map .int)) (.ref p.1)
  | [], _, _, h, r => by
    cases h
    cases r
    exact ⟨[], rfl, rfl, fun p hp => by cases hp⟩
  | d :: l, _, ks, h, r => by
    obtain ⟨v, t, rfl, h1, h2⟩ := r
    cases d <;> first | (cases h; done) | skip
    rename_i ds
    unfold tups? at h
    split at h <;> cases h
    rename_i k t' e1 e2
    obtain ⟨L, e3, e4, hL⟩ := tups_reps e2 h2
    obtain ⟨p, vs, e5, h5, h6⟩ := h1
    have ed : ds = k.map D.int := by
      clear h5 h6 e2 e4 e3
      induction ds generalizing k with
      | nil => cases e1; rfl
      | cons d ds ih =>
        cases d <;> first | (cases e1; done) | skip
        rename_i i
        have h' : (ints? ds).map (i :: ·) = some k := e1
        cases e : ints? ds with
        | none => rw [e] at h'; cases h'
        | some ks =>
          rw [e] at h'
          cases h'
          rw [ih _ e]
          rfl
    subst ed e3 e4 e5
    refine ⟨(p, k) :: L, rfl, rfl, fun q hq => ?_⟩
    rcases List.mem_cons.mp hq with e | e
    · subst e
      exact ⟨p, vs, rfl, h5, h6⟩
    · exact hL q e
theorem crSs (hc : X.calm = true) (hu : X.A.units + 66 < cLine) : CallR X (.type "set") (rSs X) := by
  intro pins s σ H xs us Q I rs ⟨W, mu, m, x, r, c, ok, rx, hd, q⟩
  obtain ⟨v, rfl, rv⟩ := rU1 rx
  unfold ssD at hd
  split at hd <;> try cases hd
  · rename_i l
    split at hd <;> try cases hd
    rename_i ns e
    split at hd <;> cases hd
    rename_i hn
    obtain ⟨p, vs, rfl, h1, h2⟩ := rv.tuple
    have ev := reps_ints e h2
    subst ev
    rw [c.1] at h1
    have := Vals.ref1 rs
    subst this
    obtain ⟨its, rv', hl, _⟩ := I.tuple h1.t
    have hf : H s.heap.objs.size = none := I.hok.fresh (Nat.le_refl _)
    refine call_set_tupI ns (I.ok.hd hc) hl (by simpa using ints_of_vals rv') (by unfold scanBound; omega) fun h' tk n R hn' k => ?_
    refine ⟨.ref s.heap.objs.size, upd H s.heap.objs.size (SetO X.w s.heap.objs.size (fun j => decide (j ∈ ns)) n), I.laid (t' := tk) k (Nat.le_refl _) (setO_new R), rfl, q _ _ hf (.iset ns _ n upd_same (by omega) fun k => by simp)⟩
  · rename_i l
    split at hd
    · rename_i ns e
      split at hd <;> cases hd
      rename_i hn
      obtain ⟨hn1, hn2⟩ := Bool.and_eq_true_iff.mp hn
      have hn1 := of_decide_eq_true hn1
      obtain ⟨p, vs, rfl, h1, h2⟩ := rv.list
      have ev := reps_ints e h2
      subst ev
      have := Vals.ref1 rs
      subst this
      obtain ⟨its, rv', hl, _⟩ := I.list (SqL.of h1)
      have hf : H s.heap.objs.size = none := I.hok.fresh (Nat.le_refl _)
      refine call_set_lstI ns (I.ok.hd hc) hl.isList (by simpa using ints_of_vals rv') (by unfold scanBound; omega) fun h' tk n R hn' k => ?_
      have h64 : n < 64 := by
        rcases Bool.or_eq_true_iff.mp hn2 with q | q
        · have := of_decide_eq_true q
          omega
        · exact setR_few R fun i hi => by
            have := List.all_eq_true.mp q i hi
            simpa using this
      exact ⟨.ref s.heap.objs.size, upd H s.heap.objs.size (SetO X.w s.heap.objs.size (fun j => decide (j ∈ ns)) n), I.laid (t' := tk) k (Nat.le_refl _) (setO_new R), rfl, q _ _ hf (.iset ns _ n upd_same h64 fun k => by simp)⟩
    split at hd <;> try cases hd
    rename_i ks e
    split at hd <;> cases hd
    rename_i hk
    simp only [Bool.and_eq_true, decide_eq_true_eq] at hk
    obtain ⟨hk1, hk2⟩ := hk
    obtain ⟨p, vs, rfl, h1, h2⟩ := rv.list
    obtain ⟨L, e1, e2, hL⟩ := tups_reps e h2
    subst e1
    refine cr_setOfT hc (by omega) pins s σ H _ us Q I rs ⟨p, L, rfl, SqL.of h1, fun p hp => ?_, by rw [e2, List.length_map] at hk1; exact hk1, fun a L' hn h3 h4 => ?_⟩
    · exact rep_sqT c.1 (hL p hp)
    · obtain ⟨d, hd1, hd2⟩ : ∃ d, 1 ≤ d ∧ ∀ k ∈ ks, k.length = d ∧ TS.Bd 64 k := by
        unfold okT at hk2
        split at hk2
        · cases hk2
        · rename_i k r
          simp only [Bool.and_eq_true, decide_eq_true_eq, List.all_eq_true] at hk2
          exact ⟨k.length, hk2.1, fun q hq => ⟨(hk2.2 q hq).1, fun i hi => (hk2.2 q hq).2 i hi⟩⟩
      refine q _ _ hn (.tset ks L' d upd_same hd1 hd2 (fun p hp => (hL p (h3 p hp)).mono (le_upd hn) ok ⟨[], by simp⟩) fun k => ⟨fun hk => ?_, fun hk => ?_⟩)
      · obtain ⟨p, hp, rfl⟩ := List.mem_map.mp hk
        rw [e2]
        exact List.mem_map_of_mem (h3 p hp)
      · rw [e2] at hk
        obtain ⟨p, hp, rfl⟩ := List.mem_map.mp hk
        exact h4 p hp
end
end Ev
end
section
set_option maxHeartbeats 4000000
namespace Ev
open PySem PySem.Spec PyProof.Rows L2
open PySem.W (EachIs dataLt alike AllAlike)
/-! ### min, max of alike data -/
section
variable {X : Cx} {W : Wd} {mu : Addr → Prop} {m : List Addr} {H : Hp} {Q : VK}
theorem isNon_py {d : D} (h : d.isNon = false) (ho : d.ok = true) : d.py ≠ .none := by
  cases d <;> first | (cases h; done) | (intro z; cases z; done)
theorem alikes_all {l : List D} (h : alikes l = true) : PySem.W.AlikeAll (l.map D.py) := by
  have h2 := (alikes_ok h).2
  unfold alikes at h
  rw [List.all_eq_true] at h
  refine ⟨fun x hx y hy => ?_, fun x hx => ?_⟩
  · obtain ⟨a, ha, rfl⟩ := List.mem_map.mp hx
    obtain ⟨b, hb, rfl⟩ := List.mem_map.mp hy
    have := h a ha
    simp only [Bool.and_eq_true, List.all_eq_true] at this
    exact this.2 b hb
  · obtain ⟨a, ha, rfl⟩ := List.mem_map.mp hx
    have := h a ha
    simp only [Bool.and_eq_true, Bool.not_eq_true'] at this
    exact isNon_py this.1.2 this.1.1
theorem pys_map' : ∀ l : List D, D.pys l = l.map D.py
  | [] => rfl
  | d :: r => by
    show d.py :: D.pys r = _
    rw [pys_map' r]
    rfl
theorem depAll {l : List D} (h : l.all D.ok = true) : PyData.depthAll (l.map D.py) ≤ 60 := by
  rw [← pys_map']
  exact (all_lay h).2
theorem getD_py (l : List D) (i : Nat) : (l.map D.py).getD i PyData.none = (l.getD i D.non).py := by
  rw [List.getD_eq_getElem?_getD, List.getElem?_map, List.getD_eq_getElem?_getD]
  cases l[i]? <;> rfl
theorem crMinD (hc : X.calm = true) (hu : X.A.units + 66 < cLine) : CallR X (.builtin "min") (rO X bMinD) := by
  intro pins s σ H xs us Q I rs ⟨W, mu, m, ds, d, c, ok, r, hd, q⟩
  unfold bMinD at hd
  split at hd <;> try cases hd
  rename_i x l
  split at hd <;> cases hd
  rename_i hal
  obtain ⟨hok, _⟩ := alikes_ok hal
  obtain ⟨v, rfl, rv⟩ := rU1 r
  obtain ⟨p, vs, rfl, h1, h2⟩ := rv.list
  obtain ⟨u, rfl, ru⟩ := vals1 rs
  cases ru
  obtain ⟨its, rv', hl, _⟩ := I.list (SqL.of h1)
  obtain ⟨e1, e2⟩ := reps_each I c.1 hok h2 rv'
  obtain ⟨as, hr⟩ := PySem.W.each_readsAll D.py e2
  have hn : its.toArray.size = l.length + 1 := by rw [List.size_toArray, ← rv'.length, ← h2.length]; rfl
  refine PySem.call_min_walkH (PySem.W.iter_listW (A := X.A.in1) (I.ok.hd hc) hl.isList fun s2 e W' st hfp hw hk => ?_)
  refine ⟨_, _, _, _, _, _, _, s.heap, _, rfl, W', st, hfp, by omega, hw, hk, PySem.W.cmpIn_lt (A := X.A.in1) (by simpa using hr) (alikes_all hal) (by have := depAll hok; show X.A.units + 1 + _ < _; omega), fun v s' hP mv => ?_⟩
  obtain ⟨h', tk, rfl, hk'⟩ := PySem.W.moved_old e rfl mv
  have e3 : its.toArray.size - 1 = l.length := by omega
  rw [e3] at hP
  have ef : (fun i j => dataLt (((x :: l).map D.py).getD i .none) (((x :: l).map D.py).getD j .none)) = fun i j => ltD ((x :: l).getD i .non) ((x :: l).getD j .non) := by
    funext i j
    rw [getD_py, getD_py]
    rfl
  rw [ef] at hP
  obtain ⟨b1, b2⟩ := PySem.W.argBest_fold ltD D.non x l l.length (Nat.le_refl _)
  rw [List.take_length] at b2
  generalize argBest _ _ = i at hP b1 b2
  have hj : (x :: l)[i]? = some ((x :: l).getD i .non) := by
    rw [List.getD_eq_getElem?_getD, List.getElem?_eq_getElem (by simp; omega)]
    rfl
  obtain ⟨y, hy, ry⟩ := h2.get hj
  have hv : its[i]? = some v := by simpa using hP
  obtain ⟨v', hv', rel⟩ := rv'.get hy
  rw [hv] at hv'
  cases hv'
  rw [b2] at ry
  exact ⟨y, H, I.kept hk', rel, q H y (.inl rfl) ry⟩
theorem crMaxD (hc : X.calm = true) (hu : X.A.units + 66 < cLine) : CallR X (.builtin "max") (rO X bMaxD) := by
  intro pins s σ H xs us Q I rs ⟨W, mu, m, ds, d, c, ok, r, hd, q⟩
  unfold bMaxD at hd
  split at hd <;> try cases hd
  rename_i x l
  split at hd <;> cases hd
  rename_i hal
  obtain ⟨hok, _⟩ := alikes_ok hal
  obtain ⟨v, rfl, rv⟩ := rU1 r
  obtain ⟨p, vs, rfl, h1, h2⟩ := rv.list
  obtain ⟨u, rfl, ru⟩ := vals1 rs
  cases ru
  obtain ⟨its, rv', hl, _⟩ := I.list (SqL.of h1)
  obtain ⟨e1, e2⟩ := reps_each I c.1 hok h2 rv'
  obtain ⟨as, hr⟩ := PySem.W.each_readsAll D.py e2
  have hn : its.toArray.size = l.length + 1 := by rw [List.size_toArray, ← rv'.length, ← h2.length]; rfl
  refine PySem.call_max_walkH (PySem.W.iter_listW (A := X.A.in1) (I.ok.hd hc) hl.isList fun s2 e W' st hfp hw hk => ?_)
  refine ⟨_, _, _, _, _, _, _, s.heap, _, rfl, W', st, hfp, by omega, hw, hk, PySem.W.cmpIn_gt (A := X.A.in1) (by simpa using hr) (alikes_all hal) (by have := depAll hok; show X.A.units + 1 + _ < _; omega), fun v s' hP mv => ?_⟩
  obtain ⟨h', tk, rfl, hk'⟩ := PySem.W.moved_old e rfl mv
  have e3 : its.toArray.size - 1 = l.length := by omega
  rw [e3] at hP
  have ef : (fun i j => dataLt (((x :: l).map D.py).getD j .none) (((x :: l).map D.py).getD i .none)) = fun i j => ltD ((x :: l).getD j .non) ((x :: l).getD i .non) := by
    funext i j
    rw [getD_py, getD_py]
    rfl
  rw [ef] at hP
  obtain ⟨b1, b2⟩ := PySem.W.argBest_fold (fun a b => ltD b a) D.non x l l.length (Nat.le_refl _)
  rw [List.take_length] at b2
  generalize argBest _ _ = i at hP b1 b2
  have hj : (x :: l)[i]? = some ((x :: l).getD i .non) := by
    rw [List.getD_eq_getElem?_getD, List.getElem?_eq_getElem (by simp; omega)]
    rfl
  obtain ⟨y, hy, ry⟩ := h2.get hj
  have hv : its[i]? = some v := by simpa using hP
  obtain ⟨v', hv', rel⟩ := rv'.get hy
  rw [hv] at hv'
  cases hv'
  rw [b2] at ry
  exact ⟨y, H, I.kept hk', rel, q H y (.inl rfl) ry⟩
theorem crMinA {X : Cx} (hc : X.calm = true) (hu : X.A.units + 66 < cLine) : CallR X (.builtin "min") (rO X bMinA) := by
  intro pins s σ H xs us Q I rs ⟨W, mu, m, ds, d, c, ok, r, hd, q⟩
  unfold bMinA at hd
  split at hd
  · rename_i d' e
    cases hd
    exact crMin1 hc pins s σ H xs us Q I rs ⟨W, mu, m, ds, _, c, ok, r, e, q⟩
  · exact crMinD hc hu pins s σ H xs us Q I rs ⟨W, mu, m, ds, _, c, ok, r, hd, q⟩
theorem crMaxA {X : Cx} (hc : X.calm = true) (hu : X.A.units + 66 < cLine) : CallR X (.builtin "max") (rO X bMaxA) := by
  intro pins s σ H xs us Q I rs ⟨W, mu, m, ds, d, c, ok, r, hd, q⟩
  unfold bMaxA at hd
  split at hd
  · rename_i d' e
    cases hd
    exact crMax1 hc pins s σ H xs us Q I rs ⟨W, mu, m, ds, _, c, ok, r, e, q⟩
  · exact crMaxD hc hu pins s σ H xs us Q I rs ⟨W, mu, m, ds, _, c, ok, r, hd, q⟩
/-- sorted(set(e)) -/
theorem ge_sset {X : Cx} {W : Wd} {z : En} {Wx : WX} {bb : Bool} {e : Expr} {f : Env → M D} {p p2 pos pos2 : Pos} (c : CtxOk X W) (hc : X.calm = true) (hu : X.A.units + 66 < cLine) (hg : Gl X "sorted") (hm : X.mg "sorted" = none) (hg2 : Gl X "set") (hm2 : X.mg "set" = none) (h : GE X W z Wx true e f) (hs : nst e = true) :
    GE X W z Wx bb (.Call (.Name "sorted" p) [.Call (.Name "set" p2) [e] [] pos2] [] pos) (fun ρ => (f ρ).bind fun d => fun A => ofO (ssD (deref A d)) A) :=
  pe_weak (pe_callB (crSo hc) hg hm (by rfl) (pa_cons (pe_callTy (crSs hc hu) hg2 hm2 (by rfl) (pa_cons h pa_nil (nst_eq hs)) (by decide) (by decide) (nst_eq hs) rfl) pa_nil rfl) (by decide) (by decide) rfl rfl) fun σ H Q ⟨m, ow, ρ, A, S, q⟩ => by
    refine te_then (fa := f) S q fun m1 H1 A1 d v s1 S1 r1 q1 => ?_
    obtain ⟨d', e, q2⟩ := ofO_out q1
    have ed : ∃ r, d' = .lst r := by
      revert e
      generalize deref A1 d = x
      intro e
      unfold ssD at e
      split at e <;> try cases e
      · split at e <;> try cases e
        split at e <;> cases e
        exact ⟨_, rfl⟩
      · split at e
        · split at e <;> cases e
          exact ⟨_, rfl⟩
        · split at e <;> try cases e
          split at e <;> cases e
          exact ⟨_, rfl⟩
    obtain ⟨r, rfl⟩ := ed
    refine ⟨W, _, m1, _, r, ⟨c.1.symm, c.2.2.symm⟩, S1.ok, ⟨v, [], rfl, r1.der S1, rfl⟩, e, fun a o hn sv => ?_⟩
    have S2 := S1.laid (o := o) hn
    exact ⟨W, _, m1, a, r, ⟨c.1.symm, c.2.2.symm⟩, S2.ok, rfl, sv, fun H' v l rv => OutG.ld S2 (OutG.later q2 (Sm.laid hn)) l rv⟩
end
end Ev
end
section
set_option maxHeartbeats 2000000
namespace Ev
open PySem PySem.Spec PyProof.Rows L2
/-! ### the IR and its evaluator -/
mutual
inductive IE where
  | non | bl (b : Bool) | int (i : Int) | str (s : Str) | glob (x : Str)
  | loc (i : Nat) | bor (i : Nat)
  | bin (op : Operator) (a b : IE) | neg (a : IE) | not (a : IE) | and (a b : IE) | or (a b : IE)
  | cmp (op : CmpOp) (a b : IE) | cmp2 (o1 o2 : CmpOp) (a b c : IE) | ite (c a b : IE)
  | tup (es : List IE) | lst (es : List IE) | star (a : IE) | newl (es : List IE)
  | idx (a b : IE) | sli (a : IE) (lo hi : Option IE)
  | call (f : Str) (args : List IE) (kn : List Str) (kws : List IE)
  | blt (f : BF) (args : List IE) | isT (T : String) (a : IE) | mth (f : MF) (o : IE) (args : List IE)
  | sset (a : IE) | callL (i : Nat) (args : List IE) | callH (f : Str) (a : IE) (own : List Nat) (body : IE)
  | lc (e : IE) (own : List Nat) (t : IT) (it : II) (c : Option IE)
  | vw (f : VF) (a : IE)
  | dct0 | dc (k v : IE) (own : List Nat) (t : IT) (it : II) (c : Option IE)
  | lc2 (e : IE) (own : List Nat) (t : IT) (it : II) (c : Option IE) (t1 : IT) (it1 : II) (c1 : Option IE)
inductive II where
  | val (e : IE) | rng1 (a : IE) | rng2 (a b : IE) | zip (a b : IE) | enum (a : IE) | vals (e : IE) | itms (e : IE)
end
inductive IQ where
  | nm (i : Nat) | sub (i : Nat) (k : IE)
inductive IS where
  | exp (e : IE) | set (i : Nat) (e : IE) | new (i : Nat) (e : IE) | asg (t : IQ) (e : IE) | tas (l : List IQ) (e : IE)
  | parX (ts : List (Bool × Nat)) (es : List IE) | par (i j : Nat) (a b : IE)
  | app (i : Nat) (e : IE) | ext (i : Nat) (e : IE) | rem (i : Nat) (e : IE) | appR (i : Nat) (e : IE)
  | ret (e : IE) | retN | ite (c : IE) (a b : List IS) | for_ (t : IT) (it : II) (b : List IS) | while_ (c : IE) (b : List IS)
  | never | pass | fz (l : List Nat) (s : IS)
structure CT where
  fn : Str → List D → M D
  sig : Str → Option (List Str)
  glob : Str → Option D
  wf : Nat
  fn2 : Str → List D → M D := fun _ _ => stk
  hsig : Str → Option (List Str) := fun _ => none
  hfn : Str → List D → (List D → M D) → M D := fun _ _ _ => stk
  clo : List D → M D := fun _ => stk
/-- in a lambda -/
def CT.low (ct : CT) : CT := { fn := ct.fn2, sig := ct.sig, glob := ct.glob, wf := ct.wf }
def callHC (ct : CT) (f : Str) (d : D) (lam : List D → M D) : M D := match ct.hsig f with
  | some ps => (grd (decide (ps.length = 2))).bind fun _ => ct.hfn f [d] lam
  | none => stk
def callC (ct : CT) (f : Str) (xs : List D) (ks : List (Str × D)) : M D := match ct.sig f with
  | some ps => callOf ps (ct.fn f) xs ks
  | none => stk
section
mutual
def evE : CT → IE → Env → M D
  | ct, .non, _ => M.pure .non
  | ct, .bl b, _ => M.pure (.bl b)
  | ct, .int i, _ => M.pure (.int i)
  | ct, .str x, _ => M.pure (.str x)
  | ct, .glob x, _ => ofO (ct.glob x)
  | ct, .loc i, ρ => ofO (getV ρ i)
  | ct, .bor i, ρ => ofO (getB ρ i)
  | ct, .bin op a b, ρ => (evE ct a ρ).bind fun x => (evE ct b ρ).bind fun y => ofO (binD op x y)
  | ct, .neg a, ρ => (evE ct a ρ).bind fun x => ofO (negD x)
  | ct, .not a, ρ => (evE ct a ρ).bind fun x => ofO (notD x)
  | ct, .and a b, ρ => (evE ct a ρ).bind fun x => (ofO (asBl x)).bind fun c => if c then evE ct b ρ else M.pure (.bl false)
  | ct, .or a b, ρ => (evE ct a ρ).bind fun x => (ofO (asBl x)).bind fun c => if c then M.pure (.bl true) else evE ct b ρ
  | ct, .cmp op a b, ρ => (evE ct a ρ).bind fun x => (evE ct b ρ).bind fun y => (ofO (cmpD op x y)).bind fun c => M.pure (.bl c)
  | ct, .cmp2 o1 o2 a b c, ρ => (evE ct a ρ).bind fun x => (evE ct b ρ).bind fun y => (ofO (cmpD o1 x y)).bind fun k =>
      if k then (evE ct c ρ).bind fun z => (ofO (cmpD o2 y z)).bind fun k' => M.pure (.bl k') else M.pure (.bl false)
  | ct, .ite c a b, ρ => (evE ct c ρ).bind fun x => (ofO (asBl x)).bind fun k => if k then evE ct a ρ else evE ct b ρ
  | ct, .tup es, ρ => (evEs ct es ρ).bind fun l => (grd (decide (l.length ≤ sizeLine))).bind fun _ => M.pure (.tup l)
  | ct, .lst es, ρ => (evEs ct es ρ).bind fun l => (grd (decide (l.length ≤ sizeLine))).bind fun _ => M.pure (.lst l)
  | ct, .star _, _ => stk
  | ct, .newl es, ρ => (evEs ct es ρ).bind fun l => (grd (decide (l.length ≤ sizeLine))).bind fun _ => fun A => .ok (.ref A.length) (A ++ [.lst l])
  | ct, .idx a b, ρ => (evE ct a ρ).bind fun x => (evE ct b ρ).bind fun y => fun A => ofO (idxD (deref A x) y) A
  | ct, .sli a lo hi, ρ => (evE ct a ρ).bind fun x => (evO ct lo ρ).bind fun l => (evO ct hi ρ).bind fun h => fun A => ofO (sliD (deref A x) l h) A
  | ct, .call f args kn kws, ρ => (evEs ct args ρ).bind fun xs => (evEs ct kws ρ).bind fun ks => (grd (decide (ks.length = kn.length))).bind fun _ => callC ct f xs (kn.zip ks)
  | ct, .blt f args, ρ => (evEs ct args ρ).bind fun xs => fun A => ofO (bltD f (xs.map (deref A))) A
  | ct, .isT T a, ρ => (evE ct a ρ).bind fun d => fun A => ofO (isTy (deref A d) T) A
  | ct, .mth f o args, ρ => (evE ct o ρ).bind fun x => (tyAt (mTys f) x).bind fun t => (evEs ct args ρ).bind fun xs => fun A => ofO (mthT (mthD f) t (deref A x) xs) A
  | ct, .sset a, ρ => (evE ct a ρ).bind fun d => fun A => ofO (ssD (deref A d)) A
  | ct, .callL i args, ρ => (grd (isClo ρ i)).bind fun _ => (evEs ct args ρ).bind ct.clo
  | ct, .callH f a own b, ρ => (evE ct a ρ).bind fun d => callHC ct f d (lamOf own.length ρ own fun r => evE ct.low b r)
  | ct, .lc e own t it c, ρ => evLc own t (fun r => evI ct it r) (fun r => evB ct c r) (fun r => (evE ct e r).bind fun d => M.pure [d]) ρ
  | ct, .vw f a, ρ => (evE ct a ρ).bind fun d => fun A => ofO (vwD f (deref A d)) A
  | ct, .dct0, _ => M.pure (.dct [])
  | ct, .dc k v own t it c, ρ => evDc own t (fun r => evI ct it r) (fun r => evB ct c r) (fun r => evE ct k r) (fun r => evE ct v r) ρ
  | ct, .lc2 e own t it c t1 it1 c1, ρ => evLc own t (fun r => evI ct it r) (fun r => evB ct c r) (inF (ixT t1) t1 (fun r => evI ct it1 r) (fun r => evB ct c1 r) (fun r => (evE ct e r).bind fun d => M.pure [d])) ρ
def evO : CT → Option IE → Env → M (Option Int)
  | ct, none, _ => M.pure none
  | ct, some e, ρ => (evE ct e ρ).bind fun x => (ofO (asInt x)).bind fun i => M.pure (some i)
def evEs : CT → List IE → Env → M (List D)
  | ct, [], _ => M.pure []
  | ct, .star a :: r, ρ => (evE ct a ρ).bind fun x => (ofO (seqOf x)).bind fun l => (evEs ct r ρ).bind fun t => M.pure (l ++ t)
  | ct, e :: r, ρ => (evE ct e ρ).bind fun x => (evEs ct r ρ).bind fun t => M.pure (x :: t)
def evI : CT → II → Env → M (List D)
  | ct, .val e, ρ => (evE ct e ρ).bind fun x => ofO (itOf x)
  | ct, .vals e, ρ => (evE ct e ρ).bind fun x => ofO (valsOf x)
  | ct, .itms e, ρ => (evE ct e ρ).bind fun x => ofO (itmsOf x)
  | ct, .rng1 a, ρ => (evE ct a ρ).bind fun x => (ofO (asInt x)).bind fun j => (grd (decide (-(2 ^ 62) ≤ j) && decide (j < 2 ^ 62))).bind fun _ => M.pure (rangeD 0 j.toNat)
  | ct, .rng2 a b, ρ => (evE ct a ρ).bind fun x => (evE ct b ρ).bind fun y => (ofO (asInt x)).bind fun i => (ofO (asInt y)).bind fun j =>
      (grd (decide (-(2 ^ 62) ≤ i) && decide (i < 2 ^ 62) && (decide (-(2 ^ 62) ≤ j) && decide (j < 2 ^ 62)))).bind fun _ => M.pure (rangeD i (j - i).toNat)
  | ct, .zip a b, ρ => (evE ct a ρ).bind fun x => (evE ct b ρ).bind fun y => ofO (zipS x y)
  | ct, .enum a, ρ => (evE ct a ρ).bind fun x => ofO (enumS x)
def evB : CT → Option IE → Env → M Bool
  | ct, none, _ => M.pure true
  | ct, some c, ρ => tst (evE ct c ρ)
end
variable (ct : CT)
def tqOf : IQ → TQ
  | .nm i => .nm i
  | .sub i k => .sub i (evE ct k)
def parFs : List (Bool × Nat) → List IE → PFl
  | (b, _) :: ts, e :: es => (b, evE ct e) :: parFs ts es
  | _, _ => []
mutual
def evS : IS → Env → M Fl
  | .exp e, ρ => (evE ct e ρ).bind fun _ => M.pure (.nx ρ)
  | .set i e, ρ => evSet i (evE ct e) ρ
  | .new i e, ρ => evNew i (evE ct e) ρ
  | .asg t e, ρ => evAsg (evQ (tqOf ct t)) (evE ct e) ρ
  | .tas l e, ρ => evAsg (evTas (l.map (tqOf ct))) (evE ct e) ρ
  | .parX ts es, ρ => evParX ts (parFs ct ts es) ρ
  | .par i j a b, ρ => evPar i j (evE ct a) (evE ct b) ρ
  | .app i e, ρ => evOwn i opApp (evE ct e) ρ
  | .ext i e, ρ => evOwn i opExt (evE ct e) ρ
  | .rem i e, ρ => evOwn i opRem (evE ct e) ρ
  | .appR i e, ρ => evRef i opApp (evE ct e) ρ
  | .ret e, ρ => (evE ct e ρ).bind fun d => M.pure (.rt d)
  | .retN, _ => M.pure (.rt .non)
  | .ite c a b, ρ => ifF (evE ct c) (fun r => evSs a r) (fun r => evSs b r) ρ
  | .for_ t it b, ρ => (evI ct it ρ).bind fun ds => loopF t (fun r => evSs b r) ds ρ
  | .while_ c b, ρ => whileF (evE ct c) (fun r => evSs b r) ct.wf ρ
  | .never, _ => stk
  | .pass, ρ => M.pure (.nx ρ)
  | .fz l s, ρ => fzF l (fun r => evS s r) ρ
def evSs : List IS → Env → M Fl
  | [], ρ => M.pure (.nx ρ)
  | s :: r, ρ => seqF (fun q => evS s q) (fun q => evSs r q) ρ
end
end
end Ev
end
section
set_option maxHeartbeats 4000000
namespace Ev
open PySem PySem.Spec PyProof.Rows L2
/-! ### the check of an expression -/
structure Cc where
  N : List Str
  sc : Scope
  top : Bool
  fns : List (Str × Str)
  gl : List (Str × Str)
  bts : List Str
  hns : List (Str × Str) := []
  cl : Bool := false
  lt : Option Nat := none
  bs : Option Scope := none
def Cc.blk (C : Cc) (scope : Scope) : Cc := { C with sc := relS scope C.sc, top := false, cl := false, lt := none, bs := some scope }
/-- a lambda's body -/
def Cc.low (C : Cc) (scope : Scope) : Cc := { N := C.N, sc := scope, top := false, fns := C.fns, gl := C.gl, bts := C.bts }
def parOk (p : Arguments) (ps : List Str) : Bool := p.posonlyargs.isEmpty && decide (p.args.map (·.arg) = ps) && p.vararg.isNone && p.kwonlyargs.isEmpty && p.kwarg.isNone
/-- what a def that makes lambdas asks -/
structure LtOk (X : Cx) (W : Wd) (fns hns : List (Str × Str)) (ct : CT) (t : Nat) : Prop where
  hW : W.cl = none
  T : LamT X W t
  ex : ∃ k, Room (k + 2) X.A ∧ (∀ q ∈ fns, ∃ ps, ct.sig q.2 = some ps ∧ ∃ (fa : Addr) (fd : FuncData), FnG X.prog X.w X.K X.mg X.base (L2.CX X.prog X.w) k fa fd ps (spOf W ps.length (ct.fn2 q.2)) ∧ X.mg q.1 = some (.ref fa) ∧ PySem.W.keepIn X.K (.ref fa) = true ∧ Simple fd ps) ∧
    ∀ q ∈ hns, ∃ ps, ct.hsig q.2 = some ps ∧ FnHC X W k q.1 ps (ct.hfn q.2)
structure CkOk (X : Cx) (W : Wd) (C : Cc) (ct : CT) : Prop where
  c : CtxOk X W
  hN : X.N = C.N
  nd : C.N.Nodup
  sc : X.env.scope = C.sc
  calm : X.calm = true
  gd : X.A.guards = some []
  hu : X.A.units + 66 < cLine
  fn : C.top = true → ∀ x, X.fn x = true
  bt : ∀ x ∈ C.bts, X.mg x = none
  gl : ∀ q ∈ C.gl, ∀ d, ct.glob q.2 = some d → ∃ v u, X.mg q.1 = some u ∧ RelV v u ∧ ∀ mu m H, Rep W mu m H d v
  fns : ∀ q ∈ C.fns, ∃ ps, ct.sig q.2 = some ps ∧ FnC X W q.1 ps (ct.fn q.2)
  clo : C.cl = true → CloR X W ct.clo
  lt : ∀ t, C.lt = some t → LtOk X W C.fns C.hns ct t
  bs : ∀ s, C.bs = some s → ∀ x, s.names.lookup x = some .cell → X.fn x = true
theorem CkOk.blk {X : Cx} {W : Wd} {C : Cc} {ct : CT} (h : CkOk X W C ct) (s : Shared) (H : Hp) (scope : Scope) (C' : Addr) (cl : List (Str × Addr)) (fp : List Addr) : CkOk (X.blk s H scope (compEnvC scope cl C' X.env) fp) W (C.blk scope) ct where
  c := h.c
  hN := h.hN
  nd := h.nd
  sc := by
    show relS scope X.env.scope = relS scope C.sc
    rw [h.sc]
  calm := h.calm
  gd := h.gd
  hu := h.hu
  fn := fun e => by cases e
  bt := h.bt
  gl := h.gl
  fns := fun q hq => let ⟨ps, e, F⟩ := h.fns q hq; ⟨ps, e, ⟨F.ex⟩⟩
  clo := fun e => by cases e
  lt := fun t e => by cases e
  bs := fun s e x hx => by
    cases e
    show (scope.names.lookup x == some .cell) = true
    rw [hx]
    rfl
theorem CkOk.low {X : Cx} {W : Wd} {C : Cc} {ct : CT} (h : CkOk X W C ct) {t k : Nat} (hW : W.cl = none) (F : ∀ q ∈ C.fns, ∃ ps, ct.sig q.2 = some ps ∧ ∃ (fa : Addr) (fd : FuncData), FnG X.prog X.w X.K X.mg X.base (L2.CX X.prog X.w) k fa fd ps (spOf W ps.length (ct.fn2 q.2)) ∧ X.mg q.1 = some (.ref fa) ∧ PySem.W.keepIn X.K (.ref fa) = true ∧ Simple fd ps)
    {AA : Around} {outer : List PySem.Env} {s : Shared} {H : Hp} {E : XK} {scope : Scope} {f c' : Addr} (hr : Room k (AA.deeper (LamX.lamEnv X scope s.heap.objs.size f c'))) (hg : AA.guards = some []) : CkOk (LamX.lamCx X AA outer s H E scope f c') W (C.low scope) ct.low where
  c := h.c
  hN := h.hN
  nd := h.nd
  sc := rfl
  calm := rfl
  gd := hg
  hu := by
    show (AA.deeper (LamX.lamEnv X scope s.heap.objs.size f c')).units + 66 < cLine
    have := hr.un
    omega
  fn := fun e => by cases e
  bt := h.bt
  gl := h.gl
  fns := fun q hq => let ⟨ps, e, fa, fd, F, a, b, c⟩ := F q hq; ⟨ps, e, ⟨k, fa, fd, F, hr, a, b, c⟩⟩
  clo := fun e => by cases e
  lt := fun t e => by cases e
  bs := fun s e => by cases e
/-- no default values -/
def noDef (p : Arguments) : Bool := p.defaults.isEmpty && p.kw_defaults.isEmpty
def dbgC (x : Str) : Bool := !(x == ("__debug__" : Str)) && !(x == ("__classdict__" : Str)) && !(x == ("__name__" : Str))
def visC (C : Cc) (x : Str) : Bool := match C.sc.names.lookup x with
  | some .local => true
  | some .cell => true
  | some .free => true
  | _ => false
def nmC (C : Cc) (i : Nat) (x : Str) : Bool := decide (C.N[i]? = some x) && visC C x && dbgC x
def glC (C : Cc) (x : Str) : Bool := decide (C.sc.names.lookup x = some .globalImplicit) && dbgC x
def btC (C : Cc) (x : Str) : Bool := glC C x && decide (x ∈ C.bts)
def binOk : Operator → Bool
  | .Add | .Sub | .Mult | .FloorDiv | .Mod | .Pow => true
  | _ => false
def bltN : BF → Option (Str × Bool)
  | .len => some ("len", false)
  | .abs => some ("abs", false)
  | .max1 => some ("max", false)
  | .max2 => some ("max", false)
  | .min1 => some ("min", false)
  | .min2 => some ("min", false)
  | .sum => some ("sum", false)
  | .sorted => some ("sorted", false)
  | .all => some ("all", false)
  | .any => some ("any", false)
  | .tuple => some ("tuple", true)
  | .list => some ("list", true)
  | .int => some ("int", true)
  | .bool => some ("bool", true)
  | .str => some ("str", true)
  | .divmod => some ("divmod", false)
  | .repr => some ("repr", false)
  | _ => none
def mthN : MF → Option Str
  | .count => some "count"
  | .index => some "index"
  | .get1 => some "get"
  | .get2 => some "get"
  | _ => none
/-- the base of a method call is plain -/
def atbC : Expr → Bool
  | .Call _ [] _ _ => false
  | _ => true
theorem atbC_ok {e : Expr} {name : Str} {E : PySem.Env} (h : atbC e = true) : attributeBase e name E (eval e E) = eval e E := by
  cases e <;> first | rfl | skip
  rename_i f as ks p
  cases as with
  | nil => cases h
  | cons a as => cases f <;> rfl
def boR (op : BoolOp) (y : Expr) (rest : List Expr) (pos : Pos) : Expr := match rest with
  | [] => y
  | z :: r => .BoolOp op (y :: z :: r) pos
/-- a test as its value's truth -/
def plT : Expr → Bool
  | .UnaryOp .Not _ _ => false
  | .BoolOp _ _ _ => false
  | .IfExp _ _ _ _ => false
  | .Compare _ _ _ _ => false
  | _ => true
theorem plT_ok {e : Expr} {E : PySem.Env} (h : plT e = true) : ∀ whole, isTrue e E whole = (do let v ← whole; standAt e.pos; holding [v] (truthy v)) := by
  intro whole
  cases e with
  | UnaryOp op a p => cases op <;> first | rfl | cases h
  | BoolOp => cases h
  | IfExp => cases h
  | Compare => cases h
  | _ => rfl
def nsetC : Expr → Bool
  | .Set _ _ _ => false
  | _ => true
theorem nsetC_ok {e : Expr} {E : PySem.Env} (h : nsetC e = true) : ∀ x, foldedSetIterable e E x = pure x := by
  intro x
  cases e <;> first | rfl | cases h
def lclC (C : Cc) (x : Str) : Bool := match C.sc.names.lookup x with
  | some .local => true
  | some .cell => C.top || (match C.bs with
    | some s => decide (s.names.lookup x = some .cell)
    | none => false)
  | _ => false
/- a target of names -/
mutual
def ckT (C : Cc) : IT → Expr → Bool
  | .nm i, e => match e with
    | .Name x _ => decide (C.N[i]? = some x) && lclC C x
    | _ => false
  | .tp l, e => match e with
    | .Tuple es _ _ => nsts es && ckTs C l es
    | _ => false
def ckTs (C : Cc) : List IT → List Expr → Bool
  | [], [] => true
  | t :: ts, e :: es => ckT C t e && ckTs C ts es
  | _, _ => false
end
def isTup : Expr → Bool
  | .Tuple _ _ _ => true
  | _ => false
def ownP (C : Cc) (own : List Nat) : List (Str × Nat) := own.map fun i => (C.N.getD i ⟨#[]⟩, i)
def lenOk (l : List Expr) : Bool := decide (l.length < 20)
/-- how an expression is used: as a value, as a value that is only read, as a test -/
inductive Md where
  | v | b | t
  deriving DecidableEq
def Md.rd : Md → Bool
  | .v => false
  | _ => true
def pl : Md → Expr → Bool
  | .t, e => plT e
  | _, _ => true
mutual
def ckE (C : Cc) : IE → Md → Expr → Bool
  | .non, m, e => pl m e && match e with
    | .Constant .none _ _ => true
    | _ => false
  | .bl c, m, e => pl m e && match e with
    | .Constant (.bool c') _ _ => c == c'
    | _ => false
  | .int i, m, e => pl m e && match e with
    | .Constant (.int j) _ _ => decide (i = j)
    | _ => false
  | .str x, m, e => pl m e && match e with
    | .Constant (.str y) _ _ => decide (x = y)
    | _ => false
  | .glob g, m, e => pl m e && match e with
    | .Name x _ => glC C x && decide ((x, g) ∈ C.gl)
    | _ => false
  | .loc i, m, e => pl m e && match e with
    | .Name x _ => nmC C i x
    | _ => false
  | .bor i, m, e => pl m e && match e with
    | .Name x _ => m.rd && nmC C i x
    | _ => false
  | .bin op a c, m, e => pl m e && match e with
    | .BinOp x op' y _ => decide (op = op') && binOk op && ckE C a .b x && ckE C c .b y
    | _ => false
  | .neg a, m, e => pl m e && match e with
    | .UnaryOp .USub x _ => ckE C a .b x
    | _ => false
  | .not a, m, e => match e with
    | .UnaryOp .Not x _ => ckE C a (if m = .t then .t else .b) x
    | _ => false
  | .and a r, m, e => match e with
    | .BoolOp .And (x :: y :: rest) pos => ckE C a (if m = .t then .t else .b) x && ckE C r m (boR .And y rest pos)
    | _ => false
  | .or a r, m, e => match e with
    | .BoolOp .Or (x :: y :: rest) pos => ckE C a (if m = .t then .t else .b) x && ckE C r m (boR .Or y rest pos)
    | _ => false
  | .cmp op a c, _, e => match e with
    | .Compare x [op'] [y] _ => decide (op = op') && noSet y && ckE C a .b x && ckE C c .b y
    | _ => false
  | .cmp2 o1 o2 a c d, _, e => match e with
    | .Compare x [p1, p2] [y, w] _ => decide (o1 = p1) && decide (o2 = p2) && noSet w && ckE C a .b x && ckE C c .b y && ckE C d .b w
    | _ => false
  | .ite c a d, m, e => pl m e && match e with
    | .IfExp t x y _ => ckE C c .t t && ckE C a m x && ckE C d m y
    | _ => false
  | .tup es, m, e => pl m e && match e with
    | .Tuple xs _ _ => ckEs C es false xs
    | _ => false
  | .lst es, m, e => pl m e && match e with
    | .List xs _ => ckEs C es false xs
    | _ => false
  | .star _, _, _ => false
  | .newl es, m, e => pl m e && match e with
    | .List xs _ => ckEs C es false xs
    | _ => false
  | .idx a c, m, e => pl m e && match e with
    | .Subscript x y _ => plainIx y && ckE C a .b x && ckE C c .b y
    | _ => false
  | .sli a lo hi, m, e => pl m e && match e with
    | .Subscript x (.Slice l h none _) _ => ckE C a .b x && ckO C lo l && ckO C hi h
    | _ => false
  | .call f args kn kws, m, e => pl m e && match e with
    | .Call (.Name x _) xs ks _ => glC C x && decide ((x, f) ∈ C.fns) && nsts xs && kwOk ks kn && ckEs C args false xs && ckEs C kws false (ks.map (·.value)) && nsts (ks.map (·.value))
    | _ => false
  | .blt f args, m, e => pl m e && match e with
    | .Call (.Name x _) (y :: ys) [] _ => (match bltN f with
      | some (n, _) => decide (x = n) && btC C x
      | none => false) && nsts (y :: ys) && ckEs C args true (y :: ys)
    | _ => false
  | .isT T a, m, e => pl m e && match e with
    | .Call (.Name x _) [y, .Name xT _] [] _ => decide (x = ("isinstance" : Str)) && btC C x && decide (T ∈ tyNames) && decide (xT = Str.ofString T) && btC C xT && nst y && ckE C a .b y
    | _ => false
  | .mth f o args, m, e => pl m e && match e with
    | .Call (.Attribute y name apos) (w :: ws) [] cpos => decide (mthN f = some name) && atbC y && (apos.endLine == cpos.line) && nsts (w :: ws) && lenOk (w :: ws) && ckE C o .b y && ckEs C args false (w :: ws)
    | _ => false
  | .sset a, m, e => pl m e && match e with
    | .Call (.Name x _) [.Call (.Name y _) [w] [] _] [] _ => decide (x = ("sorted" : Str)) && btC C x && decide (y = ("set" : Str)) && btC C y && nst w && ckE C a .b w
    | _ => false
  | .callL i args, m, e => pl m e && match e with
    | .Call (.Name x _) (y :: ys) [] _ => C.cl && nmC C i x && nsts (y :: ys) && ckEs C args false (y :: ys)
    | _ => false
  | .callH f a own b, m, e => pl m e && match e with
    | .Call (.Name x _) [y, .Lambda params body scope _] [] _ => glC C x && decide ((x, f) ∈ C.hns) && nst y && ckE C a .v y && C.lt.isSome && lamPB C.sc scope (params.args.map (·.arg)) && ownPB C.N (params.args.map (·.arg)) own && parOk params (params.args.map (·.arg)) && noDef params && ckE (C.low scope) b .v body
    | _ => false
  | .lc e own t it c, m, x => pl m x && match x with
    | .ListComp elt [⟨tg, iter, ifs, 0⟩] scope _ => blkC C.N C.sc scope (ownP C own) && (ixT t).all (fun i => decide (i ∈ own)) && nsetC iter && ckI C it true tg iter && ckT (C.blk scope) t tg && ckF (C.blk scope) c ifs && ckE (C.blk scope) e .v elt
    | _ => false
  | .vw f a, m, e => pl m e && match e with
    | .Call (.Name x _) [.Call (.Attribute y name apos) [] [] cpos] [] _ => (match f with
      | .listV => decide (x = ("list" : Str)) && decide (name = ("values" : Str))
      | .sortV => decide (x = ("sorted" : Str)) && decide (name = ("values" : Str))
      | .sortI => decide (x = ("sorted" : Str)) && decide (name = ("items" : Str))) && btC C x && atbC y && (apos.endLine == cpos.line) && ckE C a .b y
    | _ => false
  | .dct0, m, e => pl m e && match e with
    | .Dict [] [] _ => true
    | _ => false
  | .dc k v own t it c, m, x => pl m x && match x with
    | .DictComp kx vx [⟨tg, iter, ifs, 0⟩] scope _ => blkC C.N C.sc scope (ownP C own) && (ixT t).all (fun i => decide (i ∈ own)) && nsetC iter && ckI C it true tg iter && ckT (C.blk scope) t tg && ckF (C.blk scope) c ifs && ckE (C.blk scope) k .v kx && ckE (C.blk scope) v .v vx
    | _ => false
  | .lc2 e own t it c t1 it1 c1, m, x => pl m x && match x with
    | .ListComp elt [⟨tg, iter, ifs, 0⟩, ⟨tg1, iter1, ifs1, 0⟩] scope _ => blkC C.N C.sc scope (ownP C own) && (ixT t).all (fun i => decide (i ∈ own)) && (ixT t1).all (fun i => decide (i ∈ own)) && nsetC iter && nsetC iter1 && ckI C it true tg iter && ckT (C.blk scope) t tg && ckF (C.blk scope) c ifs &&
      ckI (C.blk scope) it1 false tg1 iter1 && ckT (C.blk scope) t1 tg1 && ckF (C.blk scope) c1 ifs1 && ckE (C.blk scope) e .v elt
    | _ => false
def ckO (C : Cc) : Option IE → Option Expr → Bool
  | none, e => match e with
    | none => true
    | _ => false
  | some a, e => match e with
    | some x => ckE C a .b x
    | none => false
def ckEs (C : Cc) : List IE → Bool → List Expr → Bool
  | [], _, xs => match xs with
    | [] => true
    | _ => false
  | .star a :: r, b, xs => match xs with
    | .Starred x _ :: ys => ckE C a .b x && ckEs C r b ys
    | _ => false
  | a :: r, b, xs => match xs with
    | x :: ys => nst x && ckE C a (if b then .b else .v) x && ckEs C r b ys
    | [] => false
/-- a clause's tests -/
def ckF (C : Cc) : Option IE → List Expr → Bool
  | none, xs => match xs with
    | [] => true
    | _ => false
  | some c, xs => match xs with
    | [x] => ckE C c .t x
    | _ => false
def ckI (C : Cc) : II → Bool → Expr → Expr → Bool
  | .val a, b, _, e => ckE C a (if b then .b else .v) e
  | .rng1 a, _, _, e => match e with
    | .Call (.Name x _) [y] [] _ => decide (x = ("range" : Str)) && btC C x && nst y && ckE C a .b y
    | _ => false
  | .rng2 a c, _, _, e => match e with
    | .Call (.Name x _) [y, w] [] _ => decide (x = ("range" : Str)) && btC C x && nst y && nst w && ckE C a .b y && ckE C c .b w
    | _ => false
  | .zip a c, b, tg, e => match e with
    | .Call (.Name x _) [y, w] [] _ => isTup tg && decide (x = ("zip" : Str)) && btC C x && nst y && nst w && ckE C a (if b then .b else .v) y && ckE C c (if b then .b else .v) w
    | _ => false
  | .vals a, b, _, e => match e with
    | .Call (.Attribute y name apos) [] [] cpos => decide (name = ("values" : Str)) && atbC y && (apos.endLine == cpos.line) && ckE C a (if b then .b else .v) y
    | _ => false
  | .itms a, b, tg, e => match e with
    | .Call (.Attribute y name apos) [] [] cpos => isTup tg && decide (name = ("items" : Str)) && atbC y && (apos.endLine == cpos.line) && ckE C a (if b then .b else .v) y
    | _ => false
  | .enum a, b, tg, e => match e with
    | .Call (.Name x _) [y] [] _ => isTup tg && decide (x = ("enumerate" : Str)) && btC C x && nst y && ckE C a (if b then .b else .v) y
    | _ => false
end
def wkI : II → Bool
  | .zip _ _ => true
  | .enum _ => true
  | .itms _ => true
  | _ => false
end Ev
end
section
set_option maxHeartbeats 4000000
namespace Ev
open PySem PySem.Spec PyProof.Rows L2
def Good (X : Cx) (W : Wd) (z : En) (Wx : WX) (m : Md) (e : Expr) (f : Env → M D) : Prop := match m with
  | .v => GE X W z Wx false e f
  | .b => GE X W z Wx true e f
  | .t => GT X W z Wx e (fun ρ => tst (f ρ)) ∧ ∀ op y rest pos, e = .BoolOp op (y :: rest) pos → GW X W z Wx e (fun ρ => tst (f ρ))
section
variable {X : Cx} {W : Wd} {z : En} {Wx : WX} {C : Cc} {ct : CT} {m : Md} {e : Expr} {f : Env → M D} {x : Str} {i : Nat}
theorem good_of (hp : pl m e = true) (h : ∀ bb, GE X W z Wx bb e f) : Good X W z Wx m e f := by
  cases m with
  | v => exact h false
  | b => exact h true
  | t => exact ⟨gt_val (bb := true) (h true) (plT_ok hp), fun op y rest pos q => by subst q; cases hp⟩
theorem Good.ge (h : Good X W z Wx .b e f) : GE X W z Wx true e f := h
theorem goodB {b : Bool} (h : Good X W z Wx (if b then .b else .v) e f) : GE X W z Wx b e f := by
  cases b
  · exact h
  · exact h
theorem and3 {a b c : Bool} (h : (a && b && c) = true) : a = true ∧ b = true ∧ c = true := by
  simp only [Bool.and_eq_true] at h
  exact ⟨h.1.1, h.1.2, h.2⟩
theorem dbg_ok (h : dbgC x = true) : (x == ("__debug__" : Str)) = false ∧ (x == ("__classdict__" : Str)) = false ∧ x ≠ ("__name__" : Str) := by
  obtain ⟨a, b, c⟩ := and3 h
  refine ⟨by simpa using a, by simpa using b, fun q => ?_⟩
  subst q
  simp at c
theorem nm_ok (k : CkOk X W C ct) (h : nmC C i x = true) : X.N[i]? = some x ∧ Vis X.env.scope x ∧ (x == ("__debug__" : Str)) = false ∧ (x == ("__classdict__" : Str)) = false := by
  obtain ⟨a, b, c⟩ := and3 h
  obtain ⟨d1, d2, _⟩ := dbg_ok c
  refine ⟨by rw [k.hN]; exact of_decide_eq_true a, ?_, d1, d2⟩
  unfold Vis
  rw [k.sc]
  unfold visC at b
  split at b
  · rename_i q; exact .inl q
  · rename_i q; exact .inr (.inl q)
  · rename_i q; exact .inr (.inr q)
  · cases b
theorem gl_ok (k : CkOk X W C ct) (h : glC C x = true) : Gl X x ∧ (x == ("__debug__" : Str)) = false ∧ x ≠ ("__name__" : Str) := by
  obtain ⟨a, b⟩ := Bool.and_eq_true_iff.mp h
  obtain ⟨d1, _, d3⟩ := dbg_ok b
  refine ⟨?_, d1, d3⟩
  show X.env.scope.names.lookup x = _
  rw [k.sc]
  exact of_decide_eq_true a
theorem bt_ok (k : CkOk X W C ct) (h : btC C x = true) : Gl X x ∧ X.mg x = none ∧ (x == ("__debug__" : Str)) = false ∧ x ≠ ("__name__" : Str) := by
  obtain ⟨a, b⟩ := Bool.and_eq_true_iff.mp h
  obtain ⟨g1, g2, g3⟩ := gl_ok k a
  exact ⟨g1, k.bt x (of_decide_eq_true b), g2, g3⟩
theorem Good.ite (h : Good X W z Wx (if m = .t then .t else .b) e f) (hm : m ≠ .t) : GE X W z Wx true e f := by
  rw [if_neg hm] at h
  exact h
theorem ge_any (h : GE X W z Wx false e f) : ∀ bb, GE X W z Wx bb e f := fun bb => by
  cases bb
  · exact h
  · exact ge_b h
/-- built-ins -/
theorem blt_ok {p pos : Pos} {fl : Env → M (List D)} {es : List Expr} (k : CkOk X W C ct) {bf : BF} {n : Str} {ty : Bool} (hb : bltN bf = some (n, ty)) (hc : btC C n = true) (ha : GA X W z Wx true (e :: es) fl) (hs : nsts (e :: es) = true) : ∀ bb, GE X W z Wx bb (.Call (.Name n p) (e :: es) [] pos) (fun ρ => (fl ρ).bind fun xs => fun A => ofO (bltD bf (xs.map (deref A))) A) := fun bb => by
  obtain ⟨g1, g2, g3, g4⟩ := bt_ok k hc
  cases bf <;> first | cases hb | skip
  · exact ge_blB k.c (crLen k.hu) g1 g2 PySem.boot_len g4 g3 ha hs
  · exact ge_blB k.c crAbs g1 g2 boot_abs g4 g3 ha hs
  · exact ge_blB k.c (crMaxA k.calm k.hu) g1 g2 boot_max g4 g3 ha hs
  · exact ge_blB k.c (crMinA k.calm k.hu) g1 g2 boot_min g4 g3 ha hs
  · exact ge_blB k.c (crMax2 k.calm) g1 g2 boot_max g4 g3 ha hs
  · exact ge_blB k.c (crMin2 k.calm) g1 g2 boot_min g4 g3 ha hs
  · exact ge_blB k.c (crSum k.calm) g1 g2 boot_sum g4 g3 ha hs
  · exact ge_blB k.c (crSortedD k.calm k.hu) g1 g2 boot_sorted g4 g3 ha hs
  · exact ge_blB k.c (crAll k.calm) g1 g2 boot_all g4 g3 ha hs
  · exact ge_blB k.c (crAny k.calm) g1 g2 boot_any g4 g3 ha hs
  · exact ge_blT k.c crTuple g1 g2 boot_tuple g4 g3 ha hs
  · exact ge_blT k.c crList g1 g2 boot_list g4 g3 ha hs
  · exact ge_blT k.c crInt g1 g2 boot_int g4 g3 ha hs
  · exact ge_blT k.c crBool g1 g2 boot_bool g4 g3 ha hs
  · exact ge_blT k.c crStr g1 g2 boot_str g4 g3 ha hs
  · exact ge_blB k.c crDivmod g1 g2 boot_divmod g4 g3 ha hs
  · exact ge_blB k.c (crRepr k.hu k.gd) g1 g2 boot_repr g4 g3 ha hs
def ctyN : List String := tyNames
theorem cty_boot {T : String} (h : T ∈ tyNames) : bootBuiltins (Str.ofString T) = some (.type T) := by
  have : ∀ T ∈ tyNames, bootBuiltins (Str.ofString T) = some (.type T) := by
    intro T h
    simp only [tyNames, List.mem_cons, List.not_mem_nil, or_false] at h
    rcases h with rfl | rfl | rfl | rfl | rfl | rfl
    · exact boot_int
    · exact boot_bool
    · exact boot_str
    · exact boot_tuple
    · exact boot_list
    · exact boot_dict
  exact this T h
theorem bin_op {op : Operator} (h : binOk op = true) : op = .Add ∨ op = .Sub ∨ op = .Mult ∨ op = .FloorDiv ∨ op = .Mod ∨ op = .Pow := by
  cases op <;> first | (simp; done) | cases h
/-- targets -/
theorem lcl_ok (k : CkOk X W C ct) (h : lclC C x = true) : Loc X.env.scope x ∧ (X.fn x = true ∨ X.env.scope.names.lookup x = some .local) := by
  unfold lclC at h
  unfold L2.Loc
  rw [k.sc]
  split at h
  · rename_i q; exact ⟨.inl q, .inr q⟩
  · rename_i q
    refine ⟨.inr q, .inl ?_⟩
    rcases Bool.or_eq_true_iff.mp h with h | h
    · exact k.fn h x
    · split at h
      · rename_i s e
        exact k.bs s e x (of_decide_eq_true h)
      · cases h
  · cases h
theorem ckTs_len : ∀ {l : List IT} {es : List Expr}, ckTs C l es = true → es.length = l.length
  | [], [], _ => rfl
  | [], _ :: _, h => by cases h
  | _ :: _, [], h => by cases h
  | t :: ts, e :: es, h => by
    have h : (ckT C t e && ckTs C ts es) = true := h
    simp [ckTs_len (Bool.and_eq_true_iff.mp h).2]
mutual
theorem ckT_ok (k : CkOk X W C ct) : ∀ (t : IT) (e : Expr) (wk : Bool), ckT C t e = true → (wk = true → isTup e = true) → PG X e (TGp W z wk t)
  | .nm i, e, wk, h, hw => by
    unfold ckT at h
    split at h
    · obtain ⟨a, b⟩ := Bool.and_eq_true_iff.mp h
      obtain ⟨l1, l2⟩ := lcl_ok k b
      cases wk with
      | false => exact gp_nm (by rw [k.hN]; exact k.nd) (by rw [k.hN]; exact of_decide_eq_true a) l1 l2
      | true => cases hw rfl
    · cases h
  | .tp l, e, wk, h, hw => by
    unfold ckT at h
    split at h
    · obtain ⟨a, b⟩ := Bool.and_eq_true_iff.mp h
      exact gp_tp k.c k.calm (ckTs_ok k l _ a b) a (ckTs_len b)
    · cases h
theorem ckTs_ok (k : CkOk X W C ct) : ∀ (l : List IT) (es : List Expr), nsts es = true → ckTs C l es = true → PGs X es (TGps W z l)
  | [], [], _, _ => gps_nil
  | [], _ :: _, _, h => by cases h
  | _ :: _, [], _, h => by cases h
  | t :: ts, e :: es, hn, h => by
    have h : (ckT C t e && ckTs C ts es) = true := h
    obtain ⟨a, b⟩ := Bool.and_eq_true_iff.mp h
    obtain ⟨n1, n2⟩ := Bool.and_eq_true_iff.mp hn
    exact gps_cons (ckT_ok k t e false a (fun q => by cases q)) (ckTs_ok k ts es n2 b) n1
end
theorem wk_tup {it : II} {b : Bool} {tg e : Expr} (h : ckI C it b tg e = true) (hw : wkI it = true) : isTup tg = true := by
  cases it <;> first | cases hw | skip
  · unfold ckI at h
    split at h
    · simp only [Bool.and_eq_true] at h
      exact h.1.1.1.1.1.1
    · cases h
  · unfold ckI at h
    split at h
    · simp only [Bool.and_eq_true] at h
      exact h.1.1.1.1
    · cases h
  · unfold ckI at h
    split at h
    · simp only [Bool.and_eq_true] at h
      exact h.1.1.1.1
    · cases h
theorem isTup_ex (h : isTup e = true) : ∃ es k pos, e = .Tuple es k pos := by
  cases e <;> first | cases h | skip
  exact ⟨_, _, _, rfl⟩
theorem own_map {l : List Nat} : (ownP C l).map (·.2) = l := by
  unfold ownP
  rw [List.map_map]
  exact (List.map_congr_left fun _ _ => rfl).trans (List.map_id l)
def isStar : IE → Bool
  | .star _ => true
  | _ => false
theorem evEs_cons {a : IE} {r : List IE} (h : isStar a = false) : evEs ct (a :: r) = fun ρ => (evE ct a ρ).bind fun x => (evEs ct r ρ).bind fun t => M.pure (x :: t) := by
  cases a <;> first | rfl | cases h
theorem ckEs_cons {a : IE} {r : List IE} {b : Bool} {xs : List Expr} (h : isStar a = false) : ckEs C (a :: r) b xs = match xs with
    | x :: ys => nst x && ckE C a (if b then .b else .v) x && ckEs C r b ys
    | [] => false := by
  cases a <;> first | rfl | cases h
theorem ckEs_star {a : IE} {r : List IE} {b : Bool} {xs : List Expr} : ckEs C (.star a :: r) b xs = match xs with
    | .Starred x _ :: ys => ckE C a .b x && ckEs C r b ys
    | _ => false := by
  cases xs with
  | nil => rfl
  | cons x ys => cases x <;> rfl
end
end Ev
end
section
set_option maxHeartbeats 400000
namespace Ev
open PySem PySem.Spec PyProof.Rows L2
section
variable {W : Wd}
theorem pt_go {X : Cx} {z : En} {Wx : WX} {c : Expr} {f : Env → M D} (h : GT X W z Wx c (fun ρ => tst (f ρ))) : PTs X [c] (TG W z Wx RpB (fun ρ => tst (f ρ))) := pts_one h
theorem noDef_ok {p : Arguments} {E : PySem.Env} (h : noDef p = true) : defaultsOf p E = ([], []) := by
  obtain ⟨a, b, c, d, kd, f, df⟩ := p
  obtain ⟨h1, h2⟩ := Bool.and_eq_true_iff.mp h
  obtain rfl : df = [] := by simpa using h1
  obtain rfl : kd = [] := by simpa using h2
  rfl
theorem simple_lam {nm q : Str} {p : Arguments} {body : Expr} {scope : Scope} {clos : List (Str × Addr)} {pm cv ctv : Value} {ps : List Str} (h : parOk p ps = true) : Simple (PySem.W.kla_fn nm q p body scope clos pm cv ctv) ps := by
  unfold parOk at h
  obtain ⟨h, h5⟩ := Bool.and_eq_true_iff.mp h
  obtain ⟨h, h4⟩ := Bool.and_eq_true_iff.mp h
  obtain ⟨h, h3⟩ := Bool.and_eq_true_iff.mp h
  obtain ⟨h1, h2⟩ := Bool.and_eq_true_iff.mp h
  exact ⟨by simpa using h1, of_decide_eq_true h2, by simpa using h3, by simpa using h4, by simpa using h5, rfl⟩
mutual
theorem ckE_ok : ∀ (i : IE) (m : Md) (e : Expr) (X : Cx) (C : Cc) (z : En) (Wx : WX) (ct : CT), CkOk X W C ct → L2.Takes X Wx → ckE C i m e = true → Good X W z Wx m e (evE ct i)
  | .non, m, e, X, C, z, Wx, ct, k, tk, h => by
    unfold ckE at h
    obtain ⟨hp, h⟩ := Bool.and_eq_true_iff.mp h
    split at h
    · exact good_of hp fun bb => ge_of pe_non fun _ _ _ => rfl
    · cases h
  | .bl c, m, e, X, C, z, Wx, ct, k, tk, h => by
    unfold ckE at h
    obtain ⟨hp, h⟩ := Bool.and_eq_true_iff.mp h
    split at h
    · cases eq_of_beq h
      exact good_of hp fun bb => ge_of pe_bl fun _ _ _ => rfl
    · cases h
  | .int c, m, e, X, C, z, Wx, ct, k, tk, h => by
    unfold ckE at h
    obtain ⟨hp, h⟩ := Bool.and_eq_true_iff.mp h
    split at h
    · cases of_decide_eq_true h
      exact good_of hp fun bb => ge_of pe_int fun _ _ _ => rfl
    · cases h
  | .str c, m, e, X, C, z, Wx, ct, k, tk, h => by
    unfold ckE at h
    obtain ⟨hp, h⟩ := Bool.and_eq_true_iff.mp h
    split at h
    · cases of_decide_eq_true h
      exact good_of hp fun bb => ge_of pe_str fun _ _ _ => rfl
    · cases h
  | .glob g, m, e, X, C, z, Wx, ct, k, tk, h => by
    unfold ckE at h
    obtain ⟨hp, h⟩ := Bool.and_eq_true_iff.mp h
    split at h
    · rename_i x p _
      obtain ⟨h1, h2⟩ := Bool.and_eq_true_iff.mp h
      obtain ⟨g1, g2, _⟩ := gl_ok k h1
      refine good_of hp fun bb => ?_
      cases eg : ct.glob g with
      | none =>
        have e0 : evE ct (.glob g) = fun _ => stk := by funext ρ; unfold evE; rw [eg]; rfl
        rw [e0]
        exact ⟨fun pins s σ H Q I ⟨m, ow, ρ, A, S, q⟩ => q.elim⟩
      | some d =>
        obtain ⟨v, u, a1, a2, a3⟩ := k.gl (x, g) (of_decide_eq_true h2) d eg
        have e0 : evE ct (.glob g) = fun _ => M.pure d := by funext ρ; unfold evE; rw [eg]; rfl
        rw [e0]
        exact ge_of (pe_glob g1 a1 a2 g2) a3
    · cases h
  | .loc i, m, e, X, C, z, Wx, ct, k, tk, h => by
    unfold ckE at h
    obtain ⟨hp, h⟩ := Bool.and_eq_true_iff.mp h
    split at h
    · obtain ⟨a, b, c, d⟩ := nm_ok k h
      exact good_of hp (ge_any (ge_loc (pe_var a b c d)))
    · cases h
  | .bor i, m, e, X, C, z, Wx, ct, k, tk, h => by
    unfold ckE at h
    obtain ⟨hp, h⟩ := Bool.and_eq_true_iff.mp h
    split at h
    · rename_i x p _
      obtain ⟨hr, h⟩ := Bool.and_eq_true_iff.mp h
      obtain ⟨a, b, c, d⟩ := nm_ok k h
      have g : GE X W z Wx true (.Name x p) (evE ct (.bor i)) := ge_bor (pe_var a b c d)
      cases m with
      | v => cases hr
      | b => exact g
      | t => exact ⟨gt_val g (plT_ok hp), fun op y rest pos q => by cases q⟩
    · cases h
  | .bin op a c, m, e, X, C, z, Wx, ct, k, tk, h => by
    unfold ckE at h
    obtain ⟨hp, h⟩ := Bool.and_eq_true_iff.mp h
    split at h
    · simp only [Bool.and_eq_true, decide_eq_true_eq] at h
      obtain ⟨⟨⟨rfl, h2⟩, h3⟩, h4⟩ := h
      exact good_of hp fun bb => ge_bin k.c (bin_op h2) (ckE_ok a .b _ X C z Wx ct k tk h3) (ckE_ok c .b _ X C z Wx ct k tk h4)
    · cases h
  | .neg a, m, e, X, C, z, Wx, ct, k, tk, h => by
    unfold ckE at h
    obtain ⟨hp, h⟩ := Bool.and_eq_true_iff.mp h
    split at h
    · exact good_of hp fun bb => ge_neg (ckE_ok a .b _ X C z Wx ct k tk h)
    · cases h
  | .not a, m, e, X, C, z, Wx, ct, k, tk, h => by
    unfold ckE at h
    split at h
    · have ih := ckE_ok a _ _ X C z Wx ct k tk h
      cases m with
      | v => exact ge_not (ih.ite (m := .v) (by simp))
      | b => exact ge_not (ih.ite (m := .b) (by simp))
      | t => exact ⟨gt_not ih.1, fun op y rest pos q => by cases q⟩
    · cases h
  | .and a r, m, e, X, C, z, Wx, ct, k, tk, h => by
    unfold ckE at h
    split at h
    · rename_i x y rest pos
      obtain ⟨h1, h2⟩ := Bool.and_eq_true_iff.mp h
      have i1 := ckE_ok a _ _ X C z Wx ct k tk h1
      have i2 := ckE_ok r _ _ X C z Wx ct k tk h2
      have vals : ∀ bb, m ≠ .t → GE X W z Wx bb (boR .And y rest pos) (evE ct r) → GE X W z Wx bb (.BoolOp .And (x :: y :: rest) pos) (evE ct (.and a r)) := fun bb hm i2 => by
        cases rest with
        | nil => exact ge_and (i1.ite hm) (pe_one i2)
        | cons w ws => exact ge_and (i1.ite hm) i2
      cases m with
      | v => exact vals _ (by simp) i2
      | b => exact vals _ (by simp) i2
      | t =>
        have g : GW X W z Wx (.BoolOp .And (x :: y :: rest) pos) (fun ρ => tst (evE ct (.and a r) ρ)) := by
          cases rest with
          | nil => exact gw_and i1.1 (gw_and1 i2.1)
          | cons w ws => exact gw_and i1.1 (i2.2 _ _ _ _ rfl)
        exact ⟨g.pt, fun op y' rest' pos' q => by cases q; exact g⟩
    · cases h
  | .or a r, m, e, X, C, z, Wx, ct, k, tk, h => by
    unfold ckE at h
    split at h
    · rename_i x y rest pos
      obtain ⟨h1, h2⟩ := Bool.and_eq_true_iff.mp h
      have i1 := ckE_ok a _ _ X C z Wx ct k tk h1
      have i2 := ckE_ok r _ _ X C z Wx ct k tk h2
      have vals : ∀ bb, m ≠ .t → GE X W z Wx bb (boR .Or y rest pos) (evE ct r) → GE X W z Wx bb (.BoolOp .Or (x :: y :: rest) pos) (evE ct (.or a r)) := fun bb hm i2 => by
        cases rest with
        | nil => exact ge_or (i1.ite hm) (pe_one i2)
        | cons w ws => exact ge_or (i1.ite hm) i2
      cases m with
      | v => exact vals _ (by simp) i2
      | b => exact vals _ (by simp) i2
      | t =>
        have g : GW X W z Wx (.BoolOp .Or (x :: y :: rest) pos) (fun ρ => tst (evE ct (.or a r) ρ)) := by
          cases rest with
          | nil => exact gw_or i1.1 (gw_or1 i2.1)
          | cons w ws => exact gw_or i1.1 (i2.2 _ _ _ _ rfl)
        exact ⟨g.pt, fun op y' rest' pos' q => by cases q; exact g⟩
    · cases h
  | .cmp op a c, m, e, X, C, z, Wx, ct, k, tk, h => by
    unfold ckE at h
    split at h
    · simp only [Bool.and_eq_true, decide_eq_true_eq] at h
      obtain ⟨⟨⟨rfl, h2⟩, h3⟩, h4⟩ := h
      have i1 : GE X W z Wx true _ _ := ckE_ok a .b _ X C z Wx ct k tk h3
      have i2 : GE X W z Wx true _ _ := ckE_ok c .b _ X C z Wx ct k tk h4
      cases m with
      | v => exact ge_cmp k.c k.hu i1 i2 h2
      | b => exact ge_cmp k.c k.hu i1 i2 h2
      | t => exact ⟨gt_cmp k.c k.hu i1 i2 h2, fun op y rest pos q => by cases q⟩
    · cases h
  | .cmp2 o1 o2 a c d, m, e, X, C, z, Wx, ct, k, tk, h => by
    unfold ckE at h
    split at h
    · simp only [Bool.and_eq_true, decide_eq_true_eq] at h
      obtain ⟨⟨⟨⟨⟨rfl, rfl⟩, h2⟩, h3⟩, h4⟩, h5⟩ := h
      have i1 : GE X W z Wx true _ _ := ckE_ok a .b _ X C z Wx ct k tk h3
      have i2 : GE X W z Wx true _ _ := ckE_ok c .b _ X C z Wx ct k tk h4
      have i3 : GE X W z Wx true _ _ := ckE_ok d .b _ X C z Wx ct k tk h5
      cases m with
      | v => exact ge_cmp2 k.c k.hu i1 i2 i3 h2
      | b => exact ge_cmp2 k.c k.hu i1 i2 i3 h2
      | t => exact ⟨gt_cmp2 k.c k.hu i1 i2 i3 h2, fun op y rest pos q => by cases q⟩
    · cases h
  | .ite c a d, m, e, X, C, z, Wx, ct, k, tk, h => by
    unfold ckE at h
    obtain ⟨hp, h⟩ := Bool.and_eq_true_iff.mp h
    split at h
    · obtain ⟨h1, h2, h3⟩ := and3 h
      have i1 := ckE_ok c .t _ X C z Wx ct k tk h1
      have i2 := ckE_ok a m _ X C z Wx ct k tk h2
      have i3 := ckE_ok d m _ X C z Wx ct k tk h3
      cases m with
      | v => exact ge_ite i1.1 i2 i3
      | b => exact ge_ite i1.1 i2 i3
      | t => cases hp
    · cases h
  | .tup es, m, e, X, C, z, Wx, ct, k, tk, h => by
    unfold ckE at h
    obtain ⟨hp, h⟩ := Bool.and_eq_true_iff.mp h
    split at h
    · exact good_of hp fun bb => ge_tup (ckEs_ok es false _ X C z Wx ct k tk h)
    · cases h
  | .lst es, m, e, X, C, z, Wx, ct, k, tk, h => by
    unfold ckE at h
    obtain ⟨hp, h⟩ := Bool.and_eq_true_iff.mp h
    split at h
    · exact good_of hp fun bb => ge_lst (ckEs_ok es false _ X C z Wx ct k tk h)
    · cases h
  | .star a, m, e, X, C, z, Wx, ct, k, tk, h => by cases h
  | .newl es, m, e, X, C, z, Wx, ct, k, tk, h => by
    unfold ckE at h
    obtain ⟨hp, h⟩ := Bool.and_eq_true_iff.mp h
    split at h
    · exact good_of hp fun bb => ge_newl (ckEs_ok es false _ X C z Wx ct k tk h)
    · cases h
  | .idx a c, m, e, X, C, z, Wx, ct, k, tk, h => by
    unfold ckE at h
    obtain ⟨hp, h⟩ := Bool.and_eq_true_iff.mp h
    split at h
    · obtain ⟨h1, h2, h3⟩ := and3 h
      exact good_of hp fun bb => ge_idx k.c k.hu (ckE_ok a .b _ X C z Wx ct k tk h2) (ckE_ok c .b _ X C z Wx ct k tk h3) h1
    · cases h
  | .sli a lo hi, m, e, X, C, z, Wx, ct, k, tk, h => by
    unfold ckE at h
    obtain ⟨hp, h⟩ := Bool.and_eq_true_iff.mp h
    split at h
    · obtain ⟨h1, h2, h3⟩ := and3 h
      exact good_of hp fun bb => ge_sli k.c (ckE_ok a .b _ X C z Wx ct k tk h1) (ckO_ok lo _ X C z Wx ct k tk h2) (ckO_ok hi _ X C z Wx ct k tk h3)
    · cases h
  | .call f args kn kws, m, e, X, C, z, Wx, ct, k, tk, h => by
    unfold ckE at h
    obtain ⟨hp, h⟩ := Bool.and_eq_true_iff.mp h
    split at h
    · rename_i x p xs ks pos _
      simp only [Bool.and_eq_true, decide_eq_true_eq] at h
      obtain ⟨⟨⟨⟨⟨⟨h1, h2⟩, h3⟩, h4⟩, h5⟩, h6⟩, h7⟩ := h
      obtain ⟨g1, g2, _⟩ := gl_ok k h1
      have ga := ckEs_ok args false xs X C z Wx ct k tk h5
      have gk := ckK_ok kws ks X C z Wx ct k tk h6 h7
      refine good_of hp fun bb => ?_
      obtain ⟨ps, es, F⟩ := k.fns (x, f) h2
      · have e0 : evE ct (.call f args kn kws) = fun ρ => (evEs ct args ρ).bind fun xs => (evEs ct kws ρ).bind fun ks => (grd (decide (ks.length = kn.length))).bind fun _ => callOf ps (ct.fn f) xs (kn.zip ks) := by
          funext ρ
          unfold evE callC
          rw [es]
        rw [e0]
        cases xs with
        | nil =>
          cases args with
          | nil => exact ge_call0 F k.gd tk g1 g2 gk h4
          | cons a r => exfalso; cases a <;> cases h5
        | cons x1 xs => exact ge_call F k.gd tk g1 g2 ga gk h3 h4
    · cases h
  | .blt bf args, m, e, X, C, z, Wx, ct, k, tk, h => by
    unfold ckE at h
    obtain ⟨hp, h⟩ := Bool.and_eq_true_iff.mp h
    split at h
    · rename_i x p y ys pos _
      obtain ⟨h1, h2, h3⟩ := and3 h
      split at h1
      · rename_i n ty hb
        obtain ⟨h4, h5⟩ := Bool.and_eq_true_iff.mp h1
        cases of_decide_eq_true h4
        exact good_of hp (blt_ok k hb h5 (ckEs_ok args true _ X C z Wx ct k tk h3) h2)
      · cases h1
    · cases h
  | .isT T a, m, e, X, C, z, Wx, ct, k, tk, h => by
    unfold ckE at h
    obtain ⟨hp, h⟩ := Bool.and_eq_true_iff.mp h
    split at h
    · simp only [Bool.and_eq_true, decide_eq_true_eq] at h
      obtain ⟨⟨⟨⟨⟨⟨rfl, h2⟩, h3⟩, rfl⟩, h5⟩, h6⟩, h7⟩ := h
      obtain ⟨a1, a2, a3, a4⟩ := bt_ok k h2
      obtain ⟨b1, b2, b3, b4⟩ := bt_ok k h5
      exact good_of hp fun bb => ge_is k.c h3 a1 a2 b1 b2 (cty_boot h3) b4 b3 (ckE_ok a .b _ X C z Wx ct k tk h7) h6
    · cases h
  | .mth f o args, m, e, X, C, z, Wx, ct, k, tk, h => by
    unfold ckE at h
    obtain ⟨hp, h⟩ := Bool.and_eq_true_iff.mp h
    split at h
    · rename_i y name apos w ws cpos _
      simp only [Bool.and_eq_true, decide_eq_true_eq] at h
      obtain ⟨⟨⟨⟨⟨⟨h1, h2⟩, h3⟩, h4⟩, h5⟩, h6⟩, h7⟩ := h
      have hn : (f = .count ∧ name = ("count" : Str)) ∨ (f = .index ∧ name = ("index" : Str)) ∨ (f = .get1 ∧ name = ("get" : Str)) ∨ (f = .get2 ∧ name = ("get" : Str)) := by
        cases f <;> first | (cases h1; simp; done) | cases h1
      exact good_of hp fun bb => ge_mth k.c (mt_all k.hu hn) (ckE_ok o .b _ X C z Wx ct k tk h6) (ckEs_ok args false _ X C z Wx ct k tk h7) h4 (atbC_ok h2) h3 (of_decide_eq_true h5)
    · cases h
  | .sset a, m, e, X, C, z, Wx, ct, k, tk, h => by
    unfold ckE at h
    obtain ⟨hp, h⟩ := Bool.and_eq_true_iff.mp h
    split at h
    · simp only [Bool.and_eq_true, decide_eq_true_eq] at h
      obtain ⟨⟨⟨⟨⟨rfl, h2⟩, rfl⟩, h4⟩, h5⟩, h6⟩ := h
      obtain ⟨a1, a2, _⟩ := bt_ok k h2
      obtain ⟨b1, b2, _⟩ := bt_ok k h4
      exact good_of hp fun bb => ge_sset k.c k.calm k.hu a1 a2 b1 b2 (ckE_ok a .b _ X C z Wx ct k tk h6) h5
    · cases h
  | .callL i args, m, e, X, C, z, Wx, ct, k, tk, h => by
    unfold ckE at h
    obtain ⟨hp, h⟩ := Bool.and_eq_true_iff.mp h
    split at h
    · simp only [Bool.and_eq_true] at h
      obtain ⟨⟨⟨h1, h2⟩, h3⟩, h4⟩ := h
      obtain ⟨n1, n2, n3, n4⟩ := nm_ok k h2
      exact good_of hp fun bb => k.clo h1 X.pn X.xe z Wx bb i _ _ _ _ _ _ tk n1 n2 n3 n4 (ckEs_ok args false _ X C z Wx ct k tk h4) h3
    · cases h
  | .callH f a own b, m, e, X, C, z, Wx, ct, k, tk, h => by
    unfold ckE at h
    obtain ⟨hp, h⟩ := Bool.and_eq_true_iff.mp h
    split at h
    · rename_i x p y params body scope lpos pos _
      simp only [Bool.and_eq_true, decide_eq_true_eq] at h
      obtain ⟨⟨⟨⟨⟨⟨⟨⟨⟨h1, h2⟩, h3⟩, h4⟩, h5⟩, h6⟩, h7⟩, h8⟩, h9⟩, h10⟩ := h
      obtain ⟨g1, g2, _⟩ := gl_ok k h1
      obtain ⟨t, et⟩ := Option.isSome_iff_exists.mp h5
      obtain ⟨hW, T, kk, hr, F, FH⟩ := k.lt t et
      obtain ⟨ps, es, FC⟩ := FH (x, f) h2
      have LO : LamOk X W params body scope (params.args.map (·.arg)) own kk (evE ct.low b) :=
        ⟨by rw [k.sc]; exact lamP_by h6, by rw [k.hN]; exact ownP_by h7, noDef_ok h9, fun q clos pm cv ctv => simple_lam h8, fun AA outer s H E zL fo c' hr' hg' tk' => ckE_ok b .v body _ (C.low scope) zL _ ct.low (k.low (t := t) hW F hr' hg') tk' h10⟩
      refine good_of hp fun bb => ?_
      have e0 : evE ct (.callH f a own b) = fun ρ => (evE ct a ρ).bind fun d => (grd (decide (ps.length = 2))).bind fun _ => ct.hfn f [d] (lamOf (params.args.map (·.arg)).length ρ own (evE ct.low b)) := by
        funext ρ
        show (evE ct a ρ).bind (fun d => callHC ct f d (lamOf own.length ρ own fun r => evE ct.low b r)) = _
        unfold callHC
        rw [LO.O.len]
        simp only [es]
      rw [e0]
      exact ge_callH FC hr k.gd tk g1 g2 T hW (by rw [k.hN]; exact k.nd) LO (ckE_ok a .v y X C z Wx ct k tk h4) h3
    · cases h
  | .lc e own t it c, m, x, X, C, z, Wx, ct, k, tk, h => by
    unfold ckE at h
    obtain ⟨hp, h⟩ := Bool.and_eq_true_iff.mp h
    split at h
    · rename_i elt tg iter ifs scope pos _
      simp only [Bool.and_eq_true, List.all_eq_true, decide_eq_true_eq] at h
      obtain ⟨⟨⟨⟨⟨⟨h1, h2⟩, h3⟩, h4⟩, h5⟩, h6⟩, h7⟩ := h
      refine good_of hp fun bb => ?_
      have r := ge_lc (own := ownP C own) (t := t) (bb := bb) (pos := pos) k.calm (by rw [k.hN]; exact k.nd) (ckI_ok it true tg iter X C z Wx ct k tk h4) (by rw [k.hN, k.sc]; exact blkOk_by h1)
        ⟨fun z s H C' cl fp => ckT_ok (k.blk s H scope C' cl fp) t tg _ h5 (fun hw => wk_tup h4 hw), fun z s H C' cl fp => ckF_ok c ifs _ _ z F0 ct (k.blk s H scope C' cl fp) takes0 h6⟩
        (fun z s H C' cl fp => ckE_ok e .v elt _ _ z F0 ct (k.blk s H scope C' cl fp) takes0 h7) (by rw [own_map]; exact h2) (nsetC_ok h3)
      rw [own_map] at r
      exact r
    · cases h
  | .vw f a, m, e, X, C, z, Wx, ct, k, tk, h => by
    unfold ckE at h
    obtain ⟨hp, h⟩ := Bool.and_eq_true_iff.mp h
    split at h
    · obtain ⟨h, h5⟩ := Bool.and_eq_true_iff.mp h
      obtain ⟨h, h4⟩ := Bool.and_eq_true_iff.mp h
      obtain ⟨h, h3⟩ := Bool.and_eq_true_iff.mp h
      obtain ⟨h1, h2⟩ := Bool.and_eq_true_iff.mp h
      obtain ⟨g1, g2, g3, g4⟩ := bt_ok k h2
      have ih := ckE_ok a .b _ X C z Wx ct k tk h5
      cases f with
      | listV =>
        obtain ⟨a1, a2⟩ := Bool.and_eq_true_iff.mp h1
        cases of_decide_eq_true a1
        cases of_decide_eq_true a2
        exact good_of hp fun bb => ge_lv k.c k.calm g1 g2 ih (atbC_ok h3) h4
      | sortV =>
        obtain ⟨a1, a2⟩ := Bool.and_eq_true_iff.mp h1
        cases of_decide_eq_true a1
        cases of_decide_eq_true a2
        exact good_of hp fun bb => ge_sv k.c k.calm k.hu g1 g2 ih (atbC_ok h3) h4
      | sortI =>
        obtain ⟨a1, a2⟩ := Bool.and_eq_true_iff.mp h1
        cases of_decide_eq_true a1
        cases of_decide_eq_true a2
        exact good_of hp fun bb => ge_si k.c k.calm k.hu g1 g2 ih (atbC_ok h3) h4
    · cases h
  | .dct0, m, e, X, C, z, Wx, ct, k, tk, h => by
    unfold ckE at h
    obtain ⟨hp, h⟩ := Bool.and_eq_true_iff.mp h
    split at h
    · exact good_of hp fun bb => pe_weak (gn_dct0 (Wx := Wx)) fun σ H Q q => tev_n (fun ρ A d A' h => by cases h; rfl) q
    · cases h
  | .dc kk vv own t it c, m, x, X, C, z, Wx, ct, k, tk, h => by
    unfold ckE at h
    obtain ⟨hp, h⟩ := Bool.and_eq_true_iff.mp h
    split at h
    · rename_i kx vx tg iter ifs scope pos _
      simp only [Bool.and_eq_true, List.all_eq_true, decide_eq_true_eq] at h
      obtain ⟨⟨⟨⟨⟨⟨⟨h1, h2⟩, h3⟩, h4⟩, h5⟩, h6⟩, h7⟩, h8⟩ := h
      have hi1 := ckI_ok it true tg iter X C z Wx ct k tk h4
      have nd : X.N.Nodup := by rw [k.hN]; exact k.nd
      have hb : BlkOk X.N X.env.scope scope (ownP C own) := by rw [k.hN, k.sc]; exact blkOk_by h1
      have hg := fun (s : Shared) (H : Hp) C' cl fp => pg_ex fun z => ckT_ok (k.blk s H scope C' cl fp) (z := z) t tg (wkI it) h5 (fun hw => wk_tup h4 hw)
      have ht := fun (s : Shared) (H : Hp) C' cl fp => pts_ex fun z => ckF_ok c ifs _ _ z F0 ct (k.blk s H scope C' cl fp) takes0 h6
      have hk := fun (s : Shared) (H : Hp) C' cl fp => pe_ex fun z => (ckE_ok kk .v kx _ _ z F0 ct (k.blk s H scope C' cl fp) takes0 h7 : GE _ W z F0 false kx (evE ct kk))
      have he := fun (s : Shared) (H : Hp) C' cl fp => pe_ex fun z => (ckE_ok vv .v vx _ _ z F0 ct (k.blk s H scope C' cl fp) takes0 h8 : GE _ W z F0 false vx (evE ct vv))
      have hs := nsetC_ok (E := X.env) h3
      refine good_of hp fun bb => pe_weak (pe_dcO k.hu k.calm nd hi1 hb hg ht hk he hs) fun σ H Q q => dc_n (fi := evI ct it) (fB := evB ct c) (fk := evE ct kk) (fv := evE ct vv) k.c (by rw [own_map]; exact h2) ?_
      rw [own_map]
      exact tev_n (fun ρ A d A' h => evDc_nw h) q
    · cases h
  | .lc2 e own t it c t1 it1 c1, m, x, X, C, z, Wx, ct, k, tk, h => by
    unfold ckE at h
    obtain ⟨hp, h⟩ := Bool.and_eq_true_iff.mp h
    split at h
    · rename_i elt tg iter ifs tg1 iter1 ifs1 scope pos _
      simp only [Bool.and_eq_true, List.all_eq_true, decide_eq_true_eq] at h
      obtain ⟨⟨⟨⟨⟨⟨⟨⟨⟨⟨⟨h1, h2⟩, h2'⟩, h3⟩, h3'⟩, h4⟩, h5⟩, h6⟩, h7⟩, h8⟩, h9⟩, h10⟩ := h
      refine good_of hp fun bb => ?_
      have r := ge_lc2 (own := ownP C own) (t := t) (t1 := t1) (vs1 := ixT t1) (bb := bb) (pos := pos) k.calm (by rw [k.hN]; exact k.nd) (ckI_ok it true tg iter X C z Wx ct k tk h4) (by rw [k.hN, k.sc]; exact blkOk_by h1) (by rw [own_map]; exact h2')
        ⟨fun z s H C' cl fp => ckT_ok (k.blk s H scope C' cl fp) t tg _ h5 (fun hw => wk_tup h4 hw), fun z s H C' cl fp => ckF_ok c ifs _ _ z F0 ct (k.blk s H scope C' cl fp) takes0 h6⟩
        (fun z s H C' cl fp => ckI_ok it1 false tg1 iter1 _ _ z F0 ct (k.blk s H scope C' cl fp) takes0 h7)
        ⟨fun z s H C' cl fp => ckT_ok (k.blk s H scope C' cl fp) t1 tg1 _ h8 (fun hw => wk_tup h7 hw), fun z s H C' cl fp => ckF_ok c1 ifs1 _ _ z F0 ct (k.blk s H scope C' cl fp) takes0 h9⟩
        (fun z s H C' cl fp => ckE_ok e .v elt _ _ z F0 ct (k.blk s H scope C' cl fp) takes0 h10) (by rw [own_map]; exact h2) (fun i hi => hi) (nsetC_ok h3) (fun env => nsetC_ok h3')
      rw [own_map] at r
      exact r
    · cases h
theorem ckO_ok : ∀ (i : Option IE) (e : Option Expr) (X : Cx) (C : Cc) (z : En) (Wx : WX) (ct : CT), CkOk X W C ct → L2.Takes X Wx → ckO C i e = true → GO X W z Wx e (evO ct i)
  | none, e, X, C, z, Wx, ct, k, tk, h => by
    unfold ckO at h
    split at h
    · exact go_none
    · cases h
  | some a, e, X, C, z, Wx, ct, k, tk, h => by
    unfold ckO at h
    split at h
    · exact go_some (ckE_ok a .b _ X C z Wx ct k tk h)
    · cases h
theorem ckEs_ok : ∀ (l : List IE) (b : Bool) (xs : List Expr) (X : Cx) (C : Cc) (z : En) (Wx : WX) (ct : CT), CkOk X W C ct → L2.Takes X Wx → ckEs C l b xs = true → GA X W z Wx b xs (evEs ct l)
  | [], b, xs, X, C, z, Wx, ct, k, tk, h => by
    unfold ckEs at h
    split at h
    · exact ga_nil
    · cases h
  | a :: r, b, xs, X, C, z, Wx, ct, k, tk, h => by
    cases hs : isStar a with
    | true =>
      cases a <;> first | cases hs | skip
      rename_i a'
      rw [ckEs_star] at h
      split at h
      · obtain ⟨h1, h2⟩ := Bool.and_eq_true_iff.mp h
        exact ga_star k.c (ckE_ok a' .b _ X C z Wx ct k tk h1) (ckEs_ok r b _ X C z Wx ct k tk h2)
      · cases h
    | false =>
      rw [ckEs_cons hs] at h
      rw [evEs_cons hs]
      split at h
      · obtain ⟨h1, h2, h3⟩ := and3 h
        exact ga_cons (goodB (ckE_ok a _ _ X C z Wx ct k tk h2)) (ckEs_ok r b _ X C z Wx ct k tk h3) h1
      · cases h
theorem ckK_ok : ∀ (l : List IE) (ks : List Keyword) (X : Cx) (C : Cc) (z : En) (Wx : WX) (ct : CT), CkOk X W C ct → L2.Takes X Wx → ckEs C l false (ks.map (·.value)) = true → nsts (ks.map (·.value)) = true → GK X W z Wx ks (evEs ct l)
  | [], ks, X, C, z, Wx, ct, k, tk, h, hn => by
    cases ks with
    | nil => exact gk_nil
    | cons q ks => cases h
  | a :: r, ks, X, C, z, Wx, ct, k, tk, h, hn => by
    cases hs : isStar a with
    | true =>
      cases a <;> first | cases hs | skip
      cases ks with
      | nil => cases h
      | cons q ks =>
        exfalso
        obtain ⟨n1, n2⟩ := Bool.and_eq_true_iff.mp hn
        rw [ckEs_star] at h
        have n1 : nst q.value = true := n1
        split at h
        · rename_i e
          have e2 : q.value = _ := (List.cons.inj e).1
          rw [e2] at n1
          cases n1
        · cases h
    | false =>
      rw [ckEs_cons hs] at h
      rw [evEs_cons hs]
      cases ks with
      | nil => cases h
      | cons q ks =>
        obtain ⟨nm, e, kp⟩ := q
        obtain ⟨n1, n2⟩ := Bool.and_eq_true_iff.mp hn
        obtain ⟨h1, h2, h3⟩ := and3 h
        exact gk_cons (ckE_ok a .v _ X C z Wx ct k tk h2) (ckK_ok r ks X C z Wx ct k tk h3 n2)
theorem ckF_ok : ∀ (c : Option IE) (ifs : List Expr) (X : Cx) (C : Cc) (z : En) (Wx : WX) (ct : CT), CkOk X W C ct → L2.Takes X Wx → ckF C c ifs = true → PTs X ifs (TG W z Wx RpB (evB ct c))
  | none, ifs, X, C, z, Wx, ct, k, tk, h => by
    unfold ckF at h
    split at h
    · exact ⟨fun pins s σ H Q I ⟨m, ow, ρ, A, S, q⟩ => pts_nil.run pins s σ H Q I (OutG.now S q rfl)⟩
    · cases h
  | some c, ifs, X, C, z, Wx, ct, k, tk, h => by
    unfold ckF at h
    split at h
    · exact pt_go (ckE_ok c .t _ X C z Wx ct k tk h).1
    · cases h
theorem ckI_ok : ∀ (it : II) (b : Bool) (tg e : Expr) (X : Cx) (C : Cc) (z : En) (Wx : WX) (ct : CT), CkOk X W C ct → L2.Takes X Wx → ckI C it b tg e = true → GI X W z Wx b (wkI it) tg e (evI ct it)
  | .val a, b, tg, e, X, C, z, Wx, ct, k, tk, h => gi_valD k.c (goodB (ckE_ok a _ e X C z Wx ct k tk h))
  | .rng1 a, b, tg, e, X, C, z, Wx, ct, k, tk, h => by
    unfold ckI at h
    split at h
    · simp only [Bool.and_eq_true, decide_eq_true_eq] at h
      obtain ⟨⟨⟨rfl, h2⟩, h3⟩, h4⟩ := h
      obtain ⟨a1, a2, _⟩ := bt_ok k h2
      exact gi_rng1 a1 a2 (ckE_ok a .b _ X C z Wx ct k tk h4) h3
    · cases h
  | .rng2 a c, b, tg, e, X, C, z, Wx, ct, k, tk, h => by
    unfold ckI at h
    split at h
    · simp only [Bool.and_eq_true, decide_eq_true_eq] at h
      obtain ⟨⟨⟨⟨⟨rfl, h2⟩, h3⟩, h4⟩, h5⟩, h6⟩ := h
      obtain ⟨a1, a2, _⟩ := bt_ok k h2
      exact gi_rng2 a1 a2 (ckE_ok a .b _ X C z Wx ct k tk h5) (ckE_ok c .b _ X C z Wx ct k tk h6) h3 h4
    · cases h
  | .zip a c, b, tg, e, X, C, z, Wx, ct, k, tk, h => by
    unfold ckI at h
    split at h
    · simp only [Bool.and_eq_true, decide_eq_true_eq] at h
      obtain ⟨⟨⟨⟨⟨⟨h0, rfl⟩, h2⟩, h3⟩, h4⟩, h5⟩, h6⟩ := h
      obtain ⟨a1, a2, _⟩ := bt_ok k h2
      obtain ⟨es, kk, pos, rfl⟩ := isTup_ex h0
      exact gi_zip k.c a1 a2 (goodB (ckE_ok a _ _ X C z Wx ct k tk h5)) (goodB (ckE_ok c _ _ X C z Wx ct k tk h6)) h3 h4
    · cases h
  | .vals a, b, tg, e, X, C, z, Wx, ct, k, tk, h => by
    unfold ckI at h
    split at h
    · simp only [Bool.and_eq_true, decide_eq_true_eq] at h
      obtain ⟨⟨⟨rfl, h2⟩, h3⟩, h4⟩ := h
      exact gi_dv (goodB (ckE_ok a _ _ X C z Wx ct k tk h4)) (atbC_ok h2) h3
    · cases h
  | .itms a, b, tg, e, X, C, z, Wx, ct, k, tk, h => by
    unfold ckI at h
    split at h
    · simp only [Bool.and_eq_true, decide_eq_true_eq] at h
      obtain ⟨⟨⟨⟨h0, rfl⟩, h2⟩, h3⟩, h4⟩ := h
      obtain ⟨es, kk, pos, rfl⟩ := isTup_ex h0
      exact gi_di (goodB (ckE_ok a _ _ X C z Wx ct k tk h4)) (atbC_ok h2) h3
    · cases h
  | .enum a, b, tg, e, X, C, z, Wx, ct, k, tk, h => by
    unfold ckI at h
    split at h
    · simp only [Bool.and_eq_true, decide_eq_true_eq] at h
      obtain ⟨⟨⟨⟨h0, rfl⟩, h2⟩, h3⟩, h4⟩ := h
      obtain ⟨a1, a2, _⟩ := bt_ok k h2
      obtain ⟨es, kk, pos, rfl⟩ := isTup_ex h0
      exact gi_enum k.c a1 a2 (goodB (ckE_ok a _ _ X C z Wx ct k tk h4)) h3
    · cases h
end
end
end Ev
end
section
set_option maxHeartbeats 4000000
namespace Ev
open PySem PySem.Spec PyProof.Rows L2
def isCmp : Expr → Bool
  | .ListComp _ _ _ _ => true
  | .SetComp _ _ _ _ => true
  | .DictComp _ _ _ _ _ => true
  | _ => false
theorem swN {e : Expr} {tg : Option Expr} {l : Nat} {E : PySem.Env} (h : isCmp e = false) : swapsWith e tg l E = pure false := by
  cases e <;> first | rfl | cases h
/-- name = comprehension: the name is stored within -/
def swC (C : Cc) (x : Str) (p' : Pos) : Expr → Bool
  | .DictComp _ _ _ s pos => C.sc.names.lookup x == some .local && p'.line == pos.line && !(s.names.any fun (n, k) => n == x && (k == .local || k == .cell))
  | .ListComp _ _ s pos => C.sc.names.lookup x == some .local && p'.line == pos.line && !(s.names.any fun (n, k) => n == x && (k == .local || k == .cell))
  | _ => false
def fnK (C : Cc) : Bool := match C.sc.kind with
  | .function => true
  | _ => false
def newI : IE → Bool
  | .lst _ => true
  | .lc _ _ _ _ _ => true
  | .lc2 _ _ _ _ _ _ _ _ => true
  | .dct0 => true
  | .dc _ _ _ _ _ _ => true
  | _ => false
def okSet : Expr → Bool
  | .SetComp _ _ _ _ => false
  | _ => true
def notTup : Expr → Bool
  | .Tuple _ _ _ => false
  | _ => true
/-- stored from the left -/
def swNB (C : Cc) (ts vs : List Expr) : Bool := (!(ts.length == 2 || ts.length == 3) || vs.length != ts.length) || ts.any fun t => match t with
  | .Name x _ => !(C.sc.names.lookup x == some .local)
  | _ => true
def swTB (C : Cc) (ts : List Expr) (v : Expr) : Bool := notTup v || (match v with
  | .Tuple vs _ _ => swNB C ts vs
  | _ => false)
def ckQ (C : Cc) : IQ → Expr → Bool
  | .nm i, e => match e with
    | .Name x _ => decide (C.N[i]? = some x) && lclC C x
    | _ => false
  | .sub i k, e => match e with
    | .Subscript (.Name x _) y _ => plainIx y && nmC C i x && ckE C k .v y
    | _ => false
def ckQs (C : Cc) : List IQ → List Expr → Bool
  | [], [] => true
  | t :: ts, e :: es => ckQ C t e && ckQs C ts es
  | _, _ => false
def isSub : Expr → Bool
  | .Subscript _ _ _ => true
  | _ => false
def parC (C : Cc) (x : Str) (px : Pos) (y : Str) (py : Pos) (a b : Expr) : Bool :=
  fnK C && decide (C.sc.names.lookup x = some .local) && decide (C.sc.names.lookup y = some .local) && decide (px.line = py.line) && nst a && nst b && decide (x ≠ y) && !(foldedForSure 8 a && foldedForSure 8 b) && !(constantsAlone 8 a && constantsAlone 8 b)
def parC3 (C : Cc) (x : Str) (px : Pos) (y : Str) (py : Pos) (z : Str) (pz : Pos) (a b c : Expr) : Bool :=
  fnK C && decide (C.sc.names.lookup x = some .local) && decide (C.sc.names.lookup y = some .local) && decide (C.sc.names.lookup z = some .local) && decide (px.line = py.line) && decide (px.line = pz.line) && nst a && nst b && nst c && decide (x ≠ y) && decide (x ≠ z) && decide (y ≠ z) &&
  !(foldedForSure 8 a && foldedForSure 8 b && foldedForSure 8 c) && !(constantsAlone 8 a && constantsAlone 8 b && constantsAlone 8 c)
def parXC (C : Cc) : List (Bool × Nat) → List Expr → List Expr → Bool
  | [(_, i), (_, j)], [.Name x px, .Name y py], [v, w] => decide (C.N[i]? = some x) && decide (C.N[j]? = some y) && parC C x px y py v w
  | [(_, i), (_, j), (_, l)], [.Name x px, .Name y py, .Name z pz], [v, w, u] => decide (C.N[i]? = some x) && decide (C.N[j]? = some y) && decide (C.N[l]? = some z) && parC3 C x px y py z pz v w u
  | _, _, _ => false
/-- names, the tuple made -/
def nmC1 (C : Cc) (i : Nat) : Expr → Bool
  | .Name x _ => decide (C.N[i]? = some x) && lclC C x
  | _ => false
def nmsC (C : Cc) : List Expr → List (Bool × Nat) → Bool
  | [], [] => true
  | e :: es, (_, i) :: ts => nmC1 C i e && nmsC C es ts
  | _, _ => false
def ckPs (C : Cc) : List (Bool × Nat) → List IE → List Expr → Bool
  | [], [], [] => true
  | (b, _) :: ts, e :: es, v :: vs => nst v && (!b || newI e) && ckE C e .v v && ckPs C ts es vs
  | _, _, _ => false
mutual
def ckS (C : Cc) : IS → Stmt → Bool
  | .exp e, s => match s with
    | .Expr x _ => !isCmp x && ckE C e .b x
    | _ => false
  | .set i e, s => match s with
    | .Assign [.Name x _] v _ => decide (C.N[i]? = some x) && lclC C x && okSet v && fnK C && ckE C e .v v
    | _ => false
  | .new i e, s => match s with
    | .Assign [.Name x _] v _ => decide (C.N[i]? = some x) && lclC C x && okSet v && fnK C && newI e && ckE C e .v v
    | _ => false
  | .asg t e, s => match s with
    | .Assign [tg] v _ => isSub tg && ckQ C t tg && ckE C e .v v
    | _ => false
  | .tas l e, s => match s with
    | .Assign [.Tuple ts _ _] v _ => nsts ts && swTB C ts v && ckQs C l ts && ckE C e .v v
    | _ => false
  | .par i j a b, s => match s with
    | .Assign [.Tuple [.Name x px, .Name y py] _ _] (.Tuple [v, w] _ _) _ => decide (C.N[i]? = some x) && decide (C.N[j]? = some y) && parC C x px y py v w && ckE C a .v v && ckE C b .v w
    | _ => false
  | .parX ts es, s => match s with
    | .Assign [.Tuple tgs _ _] (.Tuple vs vk vp) _ => (parXC C ts tgs vs || (nsts tgs && decide (ts.length ≤ 8) && swTB C tgs (.Tuple vs vk vp) && nmsC C tgs ts)) && ckPs C ts es vs
    | _ => false
  | .app i e, s => match s with
    | .Expr (.Call (.Attribute (.Name x _) name apos) [y] [] cpos) _ => decide (name = ("append" : Str)) && nmC C i x && nst y && (apos.endLine == cpos.line) && ckE C e .v y
    | _ => false
  | .appR i e, s => match s with
    | .Expr (.Call (.Attribute (.Name x _) name apos) [y] [] cpos) _ => decide (name = ("append" : Str)) && nmC C i x && nst y && (apos.endLine == cpos.line) && ckE C e .v y
    | _ => false
  | .ext i e, s => match s with
    | .Expr (.Call (.Attribute (.Name x _) name apos) [y] [] cpos) _ => decide (name = ("extend" : Str)) && nmC C i x && nst y && (apos.endLine == cpos.line) && ckE C e .v y
    | _ => false
  | .rem i e, s => match s with
    | .Expr (.Call (.Attribute (.Name x _) name apos) [y] [] cpos) _ => decide (name = ("remove" : Str)) && nmC C i x && nst y && (apos.endLine == cpos.line) && ckE C e .v y
    | _ => false
  | .ret e, s => match s with
    | .Return (some x) _ => ckE C e .v x
    | _ => false
  | .retN, s => match s with
    | .Return none _ => true
    | _ => false
  | .ite c a b, s => match s with
    | .If x p q _ => ckE C c .t x && ckSs C a p && ckSs C b q
    | _ => false
  | .for_ t it b, s => match s with
    | .For tg e p [] _ => nsetC e && ckI C it false tg e && ckT C t tg && ckSs C b p
    | _ => false
  | .while_ c b, s => match s with
    | .While x p [] _ => ckE C c .t x && ckSs C b p
    | _ => false
  | .never, _ => true
  | .pass, s => match s with
    | .Pass _ => true
    | _ => false
  | .fz _ s', s => ckS C s' s
def ckSs (C : Cc) : List IS → List Stmt → Bool
  | [], ss => match ss with
    | [] => true
    | _ => false
  | s :: r, ss => match ss with
    | x :: xs => ckS C s x && ckSs C r xs
    | [] => false
end
section
variable {ct : CT} {W : Wd} {X : Cx} {C : Cc} {z : En} {Wx : WX} {i : Nat} {x : Str} {p' pos : Pos} {v : Expr} {e : IE}
theorem pe_or {e : Expr} {t u : TE} (h1 : PE X e t) (h2 : PE X e u) : PE X e (fun σ H Q => t σ H Q ∨ u σ H Q) := ⟨fun pins s σ H Q I q => by
  rcases q with q | q
  · exact h1.run pins s σ H Q I q
  · exact h2.run pins s σ H Q I q⟩
theorem fnK_ok (k : CkOk X W C ct) (h : fnK C = true) : X.env.blockKind = .function := by
  unfold fnK at h
  have e : X.env.scope.kind = .function := by
    rw [k.sc]
    split at h
    · assumption
    · cases h
  unfold PySem.Env.blockKind
  rw [e]
  rfl
/-- what is stored to a name -/
theorem asg_ok (k : CkOk X W C ct) (tk : L2.Takes X Wx) (hi : C.N[i]? = some x) (hl : lclC C x = true) (ho : okSet v = true) (hf : fnK C = true) (h : ckE C e .v v = true) :
    ∃ te, PS X (.Assign [.Name x p'] v pos) (tAsg te (gName i)) ∧ (∀ σ H Q, TEv W z Wx false (evE ct e) σ H Q → te σ H Q) ∧ (newI e = true → ∀ σ H Q, TN W z Wx (evE ct e) σ H Q → te σ H Q) := by
  obtain ⟨l1, l2⟩ := lcl_ok k hl
  have nd : X.N.Nodup := by rw [k.hN]; exact k.nd
  have hi' : X.N[i]? = some x := by rw [k.hN]; exact hi
  cases v with
  | SetComp => cases ho
  | DictComp kx vx gens scope p =>
    have swv : ∀ l, swapsWith (.DictComp kx vx gens scope p) (some (.Name x p')) l X.env = pure (swC C x p' (.DictComp kx vx gens scope p)) := fun l => by
      have hb := fnK_ok k hf
      show pure (X.env.blockKind == .function && X.env.kindOf x == some .local && p'.line == p.line && !(scope.names.any fun (n, k) => n == x && (k == .local || k == .cell))) = _
      rw [hb]
      have e2 : X.env.kindOf x = C.sc.names.lookup x := by
        show X.env.scope.names.lookup x = _
        rw [k.sc]
      rw [e2]
      rfl
    have loc : swC C x p' (.DictComp kx vx gens scope p) = true → X.env.scope.names.lookup x = some .local := fun q => by
      obtain ⟨q1, _⟩ := and3 q
      rw [k.sc]
      exact eq_of_beq q1
    cases e <;> first | (cases h; done) | skip
    rename_i kk vv own t it c
    unfold ckE at h
    obtain ⟨hp, h⟩ := Bool.and_eq_true_iff.mp h
    split at h
    · rename_i kx1 vx1 tg iter ifs scope' pos' heq
      cases heq
      simp only [Bool.and_eq_true, List.all_eq_true, decide_eq_true_eq] at h
      obtain ⟨⟨⟨⟨⟨⟨⟨h1, h2⟩, h3⟩, h4⟩, h5⟩, h6⟩, h7⟩, h8⟩ := h
      have hi1 := ckI_ok (W := W) it true tg iter X C z Wx ct k tk h4
      have hb : BlkOk X.N X.env.scope scope (ownP C own) := by rw [k.hN, k.sc]; exact blkOk_by h1
      have hg := fun (s : Shared) (H : Hp) C' cl fp => pg_ex fun z => ckT_ok (k.blk s H scope C' cl fp) (z := z) t tg (wkI it) h5 (fun hw => wk_tup h4 hw)
      have ht := fun (s : Shared) (H : Hp) C' cl fp => pts_ex fun z => ckF_ok (W := W) c ifs _ _ z F0 ct (k.blk s H scope C' cl fp) takes0 h6
      have hk := fun (s : Shared) (H : Hp) C' cl fp => pe_ex fun z => (ckE_ok (W := W) kk .v kx _ _ z F0 ct (k.blk s H scope C' cl fp) takes0 h7 : GE _ W z F0 false kx (evE ct kk))
      have he := fun (s : Shared) (H : Hp) C' cl fp => pe_ex fun z => (ckE_ok (W := W) vv .v vx _ _ z F0 ct (k.blk s H scope C' cl fp) takes0 h8 : GE _ W z F0 false vx (evE ct vv))
      have hs := nsetC_ok (E := X.env) h3
      have wn : ∀ σ H Q, TN W z Wx (evE ct (.dc kk vv own t it c)) σ H Q → tDcO X (TG W z Wx (SqR true (wkI it) W) (evI ct it)) (XG W (wkI it) t) (XB W (evB ct c)) (XE W (evE ct kk)) (XE W (evE ct vv)) ((ownP C own).map (·.2)) σ H Q := fun σ H Q q => by
        refine dc_n k.c (by rw [own_map]; exact h2) ?_
        rw [own_map]
        exact q
      refine ⟨tDcO X (TG W z Wx (SqR true (wkI it) W) (evI ct it)) (XG W (wkI it) t) (XB W (evB ct c)) (XE W (evE ct kk)) (XE W (evE ct vv)) ((ownP C own).map (·.2)), ?_, fun σ H Q q => wn σ H Q (tev_n (fun ρ A d A' h => evDc_nw h) q), fun _ => wn⟩
      cases hsw : swC C x p' (.DictComp kx vx [⟨tg, iter, ifs, 0⟩] scope p) with
      | true => exact ps_setDcO k.hu k.calm nd hi' (loc hsw) (by rw [swv, hsw]) hi1 hb hg ht hk he hs
      | false => exact ps_set nd hi' l1 (pe_dcO k.hu k.calm nd hi1 hb hg ht hk he hs) (by rw [swv, hsw]) l2
    · cases h
  | Dict ks vs p =>
    cases e <;> first | (cases h; done) | skip
    unfold ckE at h
    obtain ⟨hp, h⟩ := Bool.and_eq_true_iff.mp h
    split at h
    · rename_i p1 heq
      cases heq
      exact ⟨_, ps_set nd hi' l1 (gn_dct0 (W := W) (z := z) (Wx := Wx)) (swN rfl) l2, fun σ H Q q => tev_n (fun ρ A d A' h => by cases h; rfl) q, fun _ σ H Q q => q⟩
    · cases h
  | List xs p =>
    cases e <;> first | (cases h; done) | skip
    · rename_i es
      have h1 : ckEs C es false xs = true := by
        have h2 : (true && ckEs C es false xs) = true := h
        simpa using h2
      have ga := ckEs_ok (W := W) es false xs X C z Wx ct k tk h1
      exact ⟨_, ps_set nd hi' l1 (pe_or (ge_lst (bb := false) ga) (gn_lst ga)) (swN rfl) l2, fun σ H Q q => .inl q, fun _ σ H Q q => .inr q⟩
    · rename_i es
      have g := ckE_ok (W := W) (.newl es) .v _ X C z Wx ct k tk h
      exact ⟨_, ps_set nd hi' l1 g (swN rfl) l2, fun σ H Q q => q, fun q => by cases q⟩
  | ListComp elt gens scope p =>
    have swv : ∀ l, swapsWith (.ListComp elt gens scope p) (some (.Name x p')) l X.env = pure (swC C x p' (.ListComp elt gens scope p)) := fun l => by
      have hb := fnK_ok k hf
      show pure (X.env.blockKind == .function && X.env.kindOf x == some .local && p'.line == p.line && !(scope.names.any fun (n, k) => n == x && (k == .local || k == .cell))) = _
      rw [hb]
      have e2 : X.env.kindOf x = C.sc.names.lookup x := by
        show X.env.scope.names.lookup x = _
        rw [k.sc]
      rw [e2]
      rfl
    have loc : swC C x p' (.ListComp elt gens scope p) = true → X.env.scope.names.lookup x = some .local := fun q => by
      obtain ⟨q1, _⟩ := and3 q
      rw [k.sc]
      exact eq_of_beq q1
    cases e <;> first | (cases h; done) | skip
    · rename_i e own t it c
      unfold ckE at h
      obtain ⟨hp, h⟩ := Bool.and_eq_true_iff.mp h
      split at h
      · rename_i elt' tg iter ifs scope' pos' heq
        cases heq
        simp only [Bool.and_eq_true, List.all_eq_true, decide_eq_true_eq] at h
        obtain ⟨⟨⟨⟨⟨⟨h1, h2⟩, h3⟩, h4⟩, h5⟩, h6⟩, h7⟩ := h
        have hi1 := ckI_ok (W := W) it true tg iter X C z Wx ct k tk h4
        have hb : BlkOk X.N X.env.scope scope (ownP C own) := by rw [k.hN, k.sc]; exact blkOk_by h1
        have hg := fun (s : Shared) (H : Hp) C' cl fp => pg_ex fun z => ckT_ok (k.blk s H scope C' cl fp) (z := z) t tg (wkI it) h5 (fun hw => wk_tup h4 hw)
        have ht := fun (s : Shared) (H : Hp) C' cl fp => pts_ex fun z => ckF_ok (W := W) c ifs _ _ z F0 ct (k.blk s H scope C' cl fp) takes0 h6
        have he := fun (s : Shared) (H : Hp) C' cl fp => pe_ex fun z => (ckE_ok (W := W) e .v elt _ _ z F0 ct (k.blk s H scope C' cl fp) takes0 h7 : GE _ W z F0 false elt (evE ct e))
        have hs := nsetC_ok (E := X.env) h3
        have wn : ∀ σ H Q, TN W z Wx (evE ct (.lc e own t it c)) σ H Q → tLc (TG W z Wx (SqR true (wkI it) W) (evI ct it)) (XG W (wkI it) t) (XB W (evB ct c)) (XE W (evE ct e)) ((ownP C own).map (·.2)) σ H Q := fun σ H Q q => by
          refine lc_n (by rw [own_map]; exact h2) ?_
          rw [own_map]
          exact q
        refine ⟨tLc (TG W z Wx (SqR true (wkI it) W) (evI ct it)) (XG W (wkI it) t) (XB W (evB ct c)) (XE W (evE ct e)) ((ownP C own).map (·.2)), ?_, fun σ H Q q => wn σ H Q (tev_n (fun ρ A d A' h => evLc_lst h) q), fun _ => wn⟩
        cases hsw : swC C x p' (.ListComp elt [⟨tg, iter, ifs, 0⟩] scope p) with
        | true => exact ps_setLc k.calm nd hi' (loc hsw) (by rw [swv, hsw]) hi1 hb hg ht he hs
        | false => exact ps_set nd hi' l1 (pe_lc k.calm nd hi1 hb hg ht he hs) (by rw [swv, hsw]) l2
      · cases h
    · rename_i e own t it c t1 it1 c1
      unfold ckE at h
      obtain ⟨hp, h⟩ := Bool.and_eq_true_iff.mp h
      split at h
      · rename_i elt' tg iter ifs tg1 iter1 ifs1 scope' pos' heq
        cases heq
        simp only [Bool.and_eq_true, List.all_eq_true, decide_eq_true_eq] at h
        obtain ⟨⟨⟨⟨⟨⟨⟨⟨⟨⟨⟨h1, h2⟩, h2'⟩, h3⟩, h3'⟩, h4⟩, h5⟩, h6⟩, h7⟩, h8⟩, h9⟩, h10⟩ := h
        have hi0 := ckI_ok (W := W) it true tg iter X C z Wx ct k tk h4
        have hb : BlkOk X.N X.env.scope scope (ownP C own) := by rw [k.hN, k.sc]; exact blkOk_by h1
        have hg := fun (s : Shared) (H : Hp) C' cl fp => pg_ex fun z => ckT_ok (k.blk s H scope C' cl fp) (z := z) t tg (wkI it) h5 (fun hw => wk_tup h4 hw)
        have ht := fun (s : Shared) (H : Hp) C' cl fp => pts_ex fun z => ckF_ok (W := W) c ifs _ _ z F0 ct (k.blk s H scope C' cl fp) takes0 h6
        have hi1 := fun (s : Shared) (H : Hp) C' cl fp => pi_ex fun z => ckI_ok (W := W) it1 false tg1 iter1 _ _ z F0 ct (k.blk s H scope C' cl fp) takes0 h7
        have hg1 := fun (s : Shared) (H : Hp) C' cl fp => pg_ex fun z => ckT_ok (k.blk s H scope C' cl fp) (z := z) t1 tg1 (wkI it1) h8 (fun hw => wk_tup h7 hw)
        have ht1 := fun (s : Shared) (H : Hp) C' cl fp => pts_ex fun z => ckF_ok (W := W) c1 ifs1 _ _ z F0 ct (k.blk s H scope C' cl fp) takes0 h9
        have he := fun (s : Shared) (H : Hp) C' cl fp => pe_ex fun z => (ckE_ok (W := W) e .v elt _ _ z F0 ct (k.blk s H scope C' cl fp) takes0 h10 : GE _ W z F0 false elt (evE ct e))
        have hs := nsetC_ok (E := X.env) h3
        have hs1 : ∀ env x, foldedSetIterable iter1 env x = pure x := fun env => nsetC_ok h3'
        have hv : ∀ i ∈ ixT t1, i ∈ (ownP C own).map (·.2) := by rw [own_map]; exact h2'
        have wn : ∀ σ H Q, TN W z Wx (evE ct (.lc2 e own t it c t1 it1 c1)) σ H Q → tLc2 (TG W z Wx (SqR true (wkI it) W) (evI ct it)) (XG W (wkI it) t) (XB W (evB ct c)) (XI2 W (wkI it1) (evI ct it1)) (XG W (wkI it1) t1) (XB W (evB ct c1)) (XE W (evE ct e)) ((ownP C own).map (·.2)) (ixT t1) σ H Q := fun σ H Q q => by
          refine lc2_n (by rw [own_map]; exact h2) (fun i hi => hi) ?_
          rw [own_map]
          exact q
        refine ⟨_, ?_, fun σ H Q q => wn σ H Q (tev_n (fun ρ A d A' h => evLc_lst h) q), fun _ => wn⟩
        cases hsw : swC C x p' (.ListComp elt [⟨tg, iter, ifs, 0⟩, ⟨tg1, iter1, ifs1, 0⟩] scope p) with
        | true => exact ps_setLc2 k.calm nd hi' (loc hsw) (by rw [swv, hsw]) hi0 hb hv hg ht hi1 hg1 ht1 he hs hs1
        | false => exact ps_set nd hi' l1 (pe_lc2 k.calm nd hi0 hb hv hg ht hi1 hg1 ht1 he hs hs1) (by rw [swv, hsw]) l2
      · cases h
  | _ =>
    have g := ckE_ok (W := W) e .v _ X C z Wx ct k tk h
    exact ⟨_, ps_set nd hi' l1 g (swN rfl) l2, fun σ H Q q => q, fun q => by
      exfalso
      cases e <;> first | (cases q; done) | cases h⟩
/-- a new list -/
theorem ckN_ok (k : CkOk X W C ct) (tk : L2.Takes X Wx) (hn : newI e = true) (h : ckE C e .v v = true) : PE X v (TN W z Wx (evE ct e)) := by
  have nd : X.N.Nodup := by rw [k.hN]; exact k.nd
  cases e <;> first | (cases hn; done) | skip
  · rename_i es
    unfold ckE at h
    obtain ⟨hp, h⟩ := Bool.and_eq_true_iff.mp h
    split at h
    · exact gn_lst (ckEs_ok (W := W) es false _ X C z Wx ct k tk h)
    · cases h
  · rename_i e own t it c
    unfold ckE at h
    obtain ⟨hp, h⟩ := Bool.and_eq_true_iff.mp h
    split at h
    · rename_i elt tg iter ifs scope pos' _
      simp only [Bool.and_eq_true, List.all_eq_true, decide_eq_true_eq] at h
      obtain ⟨⟨⟨⟨⟨⟨h1, h2⟩, h3⟩, h4⟩, h5⟩, h6⟩, h7⟩ := h
      have hi1 := ckI_ok (W := W) it true tg iter X C z Wx ct k tk h4
      have hb : BlkOk X.N X.env.scope scope (ownP C own) := by rw [k.hN, k.sc]; exact blkOk_by h1
      have hg := fun (s : Shared) (H : Hp) C' cl fp => pg_ex fun z => ckT_ok (k.blk s H scope C' cl fp) (z := z) t tg (wkI it) h5 (fun hw => wk_tup h4 hw)
      have ht := fun (s : Shared) (H : Hp) C' cl fp => pts_ex fun z => ckF_ok (W := W) c ifs _ _ z F0 ct (k.blk s H scope C' cl fp) takes0 h6
      have he := fun (s : Shared) (H : Hp) C' cl fp => pe_ex fun z => (ckE_ok (W := W) e .v elt _ _ z F0 ct (k.blk s H scope C' cl fp) takes0 h7 : GE _ W z F0 false elt (evE ct e))
      have hs := nsetC_ok (E := X.env) h3
      refine pe_weak (pe_lc k.calm nd hi1 hb hg ht he hs) fun σ H Q q => ?_
      refine lc_n (by rw [own_map]; exact h2) ?_
      rw [own_map]
      exact q
    · cases h
  · unfold ckE at h
    obtain ⟨hp, h⟩ := Bool.and_eq_true_iff.mp h
    split at h
    · exact gn_dct0
    · cases h
  · rename_i kk vv own t it c
    unfold ckE at h
    obtain ⟨hp, h⟩ := Bool.and_eq_true_iff.mp h
    split at h
    · rename_i kx vx tg iter ifs scope pos _
      simp only [Bool.and_eq_true, List.all_eq_true, decide_eq_true_eq] at h
      obtain ⟨⟨⟨⟨⟨⟨⟨h1, h2⟩, h3⟩, h4⟩, h5⟩, h6⟩, h7⟩, h8⟩ := h
      have hi1 := ckI_ok (W := W) it true tg iter X C z Wx ct k tk h4
      have hb : BlkOk X.N X.env.scope scope (ownP C own) := by rw [k.hN, k.sc]; exact blkOk_by h1
      have hg := fun (s : Shared) (H : Hp) C' cl fp => pg_ex fun z => ckT_ok (k.blk s H scope C' cl fp) (z := z) t tg (wkI it) h5 (fun hw => wk_tup h4 hw)
      have ht := fun (s : Shared) (H : Hp) C' cl fp => pts_ex fun z => ckF_ok (W := W) c ifs _ _ z F0 ct (k.blk s H scope C' cl fp) takes0 h6
      have hk := fun (s : Shared) (H : Hp) C' cl fp => pe_ex fun z => (ckE_ok (W := W) kk .v kx _ _ z F0 ct (k.blk s H scope C' cl fp) takes0 h7 : GE _ W z F0 false kx (evE ct kk))
      have he := fun (s : Shared) (H : Hp) C' cl fp => pe_ex fun z => (ckE_ok (W := W) vv .v vx _ _ z F0 ct (k.blk s H scope C' cl fp) takes0 h8 : GE _ W z F0 false vx (evE ct vv))
      have hs := nsetC_ok (E := X.env) h3
      refine pe_weak (pe_dcO k.hu k.calm nd hi1 hb hg ht hk he hs) fun σ H Q q => ?_
      refine dc_n (fi := evI ct it) (fB := evB ct c) (fk := evE ct kk) (fv := evE ct vv) k.c (by rw [own_map]; exact h2) ?_
      rw [own_map]
      exact q
    · cases h
  · rename_i e own t it c t1 it1 c1
    unfold ckE at h
    obtain ⟨hp, h⟩ := Bool.and_eq_true_iff.mp h
    split at h
    · rename_i elt tg iter ifs tg1 iter1 ifs1 scope pos' _
      simp only [Bool.and_eq_true, List.all_eq_true, decide_eq_true_eq] at h
      obtain ⟨⟨⟨⟨⟨⟨⟨⟨⟨⟨⟨h1, h2⟩, h2'⟩, h3⟩, h3'⟩, h4⟩, h5⟩, h6⟩, h7⟩, h8⟩, h9⟩, h10⟩ := h
      have hi0 := ckI_ok (W := W) it true tg iter X C z Wx ct k tk h4
      have hb : BlkOk X.N X.env.scope scope (ownP C own) := by rw [k.hN, k.sc]; exact blkOk_by h1
      have hg := fun (s : Shared) (H : Hp) C' cl fp => pg_ex fun z => ckT_ok (k.blk s H scope C' cl fp) (z := z) t tg (wkI it) h5 (fun hw => wk_tup h4 hw)
      have ht := fun (s : Shared) (H : Hp) C' cl fp => pts_ex fun z => ckF_ok (W := W) c ifs _ _ z F0 ct (k.blk s H scope C' cl fp) takes0 h6
      have hi1 := fun (s : Shared) (H : Hp) C' cl fp => pi_ex fun z => ckI_ok (W := W) it1 false tg1 iter1 _ _ z F0 ct (k.blk s H scope C' cl fp) takes0 h7
      have hg1 := fun (s : Shared) (H : Hp) C' cl fp => pg_ex fun z => ckT_ok (k.blk s H scope C' cl fp) (z := z) t1 tg1 (wkI it1) h8 (fun hw => wk_tup h7 hw)
      have ht1 := fun (s : Shared) (H : Hp) C' cl fp => pts_ex fun z => ckF_ok (W := W) c1 ifs1 _ _ z F0 ct (k.blk s H scope C' cl fp) takes0 h9
      have he := fun (s : Shared) (H : Hp) C' cl fp => pe_ex fun z => (ckE_ok (W := W) e .v elt _ _ z F0 ct (k.blk s H scope C' cl fp) takes0 h10 : GE _ W z F0 false elt (evE ct e))
      have hs := nsetC_ok (E := X.env) h3
      have hs1 : ∀ env x, foldedSetIterable iter1 env x = pure x := fun env => nsetC_ok h3'
      have hv : ∀ i ∈ ixT t1, i ∈ (ownP C own).map (·.2) := by rw [own_map]; exact h2'
      refine pe_weak (pe_lc2 k.calm nd hi0 hb hv hg ht hi1 hg1 ht1 he hs hs1) fun σ H Q q => ?_
      refine lc2_n (by rw [own_map]; exact h2) (fun i hi => hi) ?_
      rw [own_map]
      exact q
    · cases h
theorem ckPs_ok (k : CkOk X W C ct) (tk : L2.Takes X Wx) : ∀ (ts : List (Bool × Nat)) (es : List IE) (vs : List Expr), ckPs C ts es vs = true → PEs X W Wx vs (parFs ct ts es) ∧ (parFs ct ts es).map (·.1) = ts.map (·.1)
  | [], [], [], _ => ⟨.nil, rfl⟩
  | (b, i) :: ts, e :: es, v :: vs, h => by
    have h : (nst v && (!b || newI e) && ckE C e .v v && ckPs C ts es vs) = true := h
    obtain ⟨h, h4⟩ := Bool.and_eq_true_iff.mp h
    obtain ⟨h, h3⟩ := Bool.and_eq_true_iff.mp h
    obtain ⟨h1, h2⟩ := Bool.and_eq_true_iff.mp h
    obtain ⟨t, et⟩ := ckPs_ok k tk ts es vs h4
    refine ⟨?_, by show b :: (parFs ct ts es).map (·.1) = b :: ts.map (·.1); rw [et]⟩
    cases b with
    | false => exact .val (fun z => ckE_ok (W := W) e .v v X C z Wx ct k tk h3) h1 t
    | true => exact .new (fun z => ckN_ok k tk (by simpa using h2) h3) h1 t
  | [], [], _ :: _, h => by cases h
  | [], _ :: _, _, h => by cases h
  | _ :: _, [], _, h => by cases h
  | _ :: _, _ :: _, [], h => by cases h
end
end Ev
end
section
set_option maxHeartbeats 4000000
namespace Ev
open PySem PySem.Spec PyProof.Rows L2
section
variable {ct : CT} {W : Wd} {X : Cx} {C : Cc} {z : En} {Wx : WX} {i : Nat} {x y : Str} {pos : Pos} {e : Expr}
theorem asg_sub {o : Expr} {E : PySem.Env} (h : plainIx e = true) : ∀ v, assign (.Subscript o e pos) E v = (do
      let ov ← holding [v] (eval o E)
      let iv ← holding [v, ov] (eval e E)
      standAt pos
      holding [v, ov, iv] (setItem ov iv v)
      release [v, ov, iv] []) := fun v => by
  cases e <;> first | rfl | cases h
theorem ckQ_ok (k : CkOk X W C ct) : ∀ (t : IQ) (e : Expr), ckQ C t e = true → PG X e (TGq W z (tqOf ct t))
  | .nm i, e, h => by
    dsimp only [ckQ] at h
    split at h
    · obtain ⟨a, b⟩ := Bool.and_eq_true_iff.mp h
      obtain ⟨l1, l2⟩ := lcl_ok k b
      exact gq_nm (by rw [k.hN]; exact k.nd) (by rw [k.hN]; exact of_decide_eq_true a) l1 l2
    · cases h
  | .sub i s, e, h => by
    dsimp only [ckQ] at h
    split at h
    · obtain ⟨p, a, b⟩ := and3 h
      obtain ⟨n1, n2, n3, n4⟩ := nm_ok k a
      -- the key is read where nothing is let out
      exact gq_sub k.hu k.c n1 n2 n3 n4 (show GE X W z F0 false _ _ from ckE_ok s .v _ X C z F0 ct k takes0 b) (asg_sub p)
    · cases h
theorem ckQs_ok (k : CkOk X W C ct) : ∀ (l : List IQ) (es : List Expr), nsts es = true → ckQs C l es = true → PGs X es (TGqs W z (l.map (tqOf ct))) ∧ es.length = (l.map (tqOf ct)).length
  | [], [], _, _ => ⟨gqs_nil, rfl⟩
  | [], _ :: _, _, h => by cases h
  | _ :: _, [], _, h => by cases h
  | t :: ts, e :: es, hn, h => by
    have h : (ckQ C t e && ckQs C ts es) = true := h
    obtain ⟨a, b⟩ := Bool.and_eq_true_iff.mp h
    obtain ⟨n1, n2⟩ := Bool.and_eq_true_iff.mp hn
    obtain ⟨h1, h2⟩ := ckQs_ok k ts es n2 b
    exact ⟨gqs_cons (ckQ_ok k t e a) h1 n1, by simp [h2]⟩
theorem swSub {tg v : Expr} {l : Nat} {E : PySem.Env} (h : isSub tg = true) : swapsWithSole [tg] v l E = pure false ∧ swappedStores [tg] v E = pure none ∧ (assignEach [tg] E).map (·.2) = [assign tg E] := by
  cases tg <;> first | cases h | skip
  refine ⟨?_, ?_, rfl⟩
  · cases v <;> rfl
  · cases v <;> rfl
theorem swTup {ts : List Expr} {k : Nat} {p : Pos} {v : Expr} {l : Nat} {E : PySem.Env} (h : notTup v = true) : swapsWithSole [.Tuple ts k p] v l E = pure false ∧ swappedStores [.Tuple ts k p] v E = pure none ∧ (assignEach [.Tuple ts k p] E).map (·.2) = [assign (.Tuple ts k p) E] := by
  refine ⟨?_, ?_, rfl⟩
  · cases v <;> rfl
  · cases v <;> first | rfl | cases h
theorem fm_len {α β : Type} {f : α → Option β} : ∀ {l : List α}, (l.any fun t => (f t).isNone) = true → (l.filterMap f).length < l.length
  | [], h => by cases h
  | t :: l, h => by
    rcases Bool.or_eq_true_iff.mp (show ((f t).isNone || l.any fun t => (f t).isNone) = true from h) with h | h
    · cases e : f t with
      | none =>
        rw [List.filterMap_cons_none e]
        have := List.length_filterMap_le f l
        simp only [List.length_cons]
        omega
      | some b => rw [e] at h; cases h
    · have := fm_len h
      cases e : f t with
      | none => rw [List.filterMap_cons_none e]; simp only [List.length_cons]; omega
      | some b => rw [List.filterMap_cons_some e]; simp only [List.length_cons]; omega
theorem swTup2 {ts : List Expr} {kk : Nat} {p : Pos} {v : Expr} {l : Nat} (k : CkOk X W C ct) (h : swTB C ts v = true) : swapsWithSole [.Tuple ts kk p] v l X.env = pure false ∧ swappedStores [.Tuple ts kk p] v X.env = pure none ∧ (assignEach [.Tuple ts kk p] X.env).map (·.2) = [assign (.Tuple ts kk p) X.env] := by
  unfold swTB at h
  rcases Bool.or_eq_true_iff.mp h with h | h
  · exact swTup h
  · cases v with
    | Tuple vs k2 p2 =>
      have h : swNB C ts vs = true := h
      refine ⟨rfl, ?_, rfl⟩
      unfold swNB at h
      unfold swappedStores
      dsimp only
      by_cases c1 : (!(ts.length == 2 || ts.length == 3) || vs.length != ts.length || X.env.blockKind != .function) = true
      · exact if_pos c1
      · refine (if_neg c1).trans ?_
        by_cases c2 : (vs.any fun | .Starred .. => true | _ => false) = true
        · exact if_pos c2
        · refine (if_neg c2).trans ?_
          have c3 : (!(ts.length == 2 || ts.length == 3) || vs.length != ts.length) = false := by
            cases q : (!(ts.length == 2 || ts.length == 3) || vs.length != ts.length) with
            | false => rfl
            | true => rw [q] at c1; exact absurd rfl c1
          rw [c3, Bool.false_or] at h
          refine if_pos (Bool.or_eq_true_iff.mpr (.inl (bne_iff_ne.mpr (Nat.ne_of_lt (fm_len ?_)))))
          rw [List.any_eq_true] at h ⊢
          obtain ⟨t, ht, hk⟩ := h
          refine ⟨t, ht, ?_⟩
          cases t <;> first | rfl | skip
          rename_i id pos
          dsimp only at hk ⊢
          have hk : (C.sc.names.lookup id == some .local) = false := by simpa using hk
          have ek : X.env.kindOf id = C.sc.names.lookup id := by
            show X.env.scope.names.lookup id = _
            rw [k.sc]
          rw [ek, hk]
          rfl
    | _ => cases h
theorem par_hw {px py : Pos} {a b : Expr} {kt k2 : Nat} {pt pt2 : Pos} (k : CkOk X W C ct) (h : parC C x px y py a b = true) :
    swappedStores [.Tuple [.Name x px, .Name y py] kt pt] (.Tuple [a, b] k2 pt2) X.env = pure (some [x, y]) ∧ X.env.scope.names.lookup x = some .local ∧ X.env.scope.names.lookup y = some .local ∧ nst a = true ∧ nst b = true ∧ x ≠ y := by
  unfold parC at h
  simp only [Bool.and_eq_true, decide_eq_true_eq] at h
  obtain ⟨⟨⟨⟨⟨⟨⟨⟨h1, h2⟩, h3⟩, h4⟩, h5⟩, h6⟩, h7⟩, h8⟩, h9⟩ := h
  have hb := fnK_ok k h1
  have k1 : X.env.kindOf x = some .local := by
    show X.env.scope.names.lookup x = _
    rw [k.sc]; exact h2
  have k2' : X.env.kindOf y = some .local := by
    show X.env.scope.names.lookup y = _
    rw [k.sc]; exact h3
  refine ⟨?_, k1, k2', h5, h6, h7⟩
  have st : ([a, b].any fun | .Starred .. => true | _ => false) = false := by
    have s1 : ∀ e : Expr, nst e = true → (match e with | .Starred .. => true | _ => false) = false := fun e he => by
      cases e <;> first | rfl | cases he
    simp only [List.any_cons, List.any_nil, Bool.or_false, s1 a h5, s1 b h6]
  have ne1 : (y == x) = false := beq_eq_false_iff_ne.mpr fun q => h7 q.symm
  have f1 : [a, b].all (foldedForSure 8) = false := by
    simp only [List.all_cons, List.all_nil, Bool.and_true]
    simpa only [Bool.not_eq_true'] using h8
  have f2 : [a, b].all (constantsAlone 8) = false := by
    simp only [List.all_cons, List.all_nil, Bool.and_true]
    simpa only [Bool.not_eq_true'] using h9
  have er : ([x, y] : List Str).eraseDups.length = 2 := by
    simp [List.eraseDups_cons, ne1, List.filter, h7, Ne.symm h7]
  unfold swappedStores
  simp only [hb, st, f1, f2, k1, k2', h4, er, List.filterMap_cons, List.filterMap_nil, Expr.pos, List.head?_cons, Option.map_some, Option.getD_some, List.length_cons, List.length_nil, beq_self_eq_true, Bool.and_self, if_true, Bool.and_true, Bool.true_or, Bool.not_true, Bool.false_or, bne_self_eq_false, Bool.or_self, Bool.false_eq_true, if_false, pure_bind]
  refine if_neg fun q => ?_
  obtain ⟨e, he, h⟩ := List.any_eq_true.mp q
  have hn : nst e = true := by
    rcases List.mem_cons.mp he with rfl | he
    · exact h5
    · rcases List.mem_cons.mp he with rfl | he
      · exact h6
      · cases he
  cases e <;> first | (cases h; done) | cases hn
theorem par_hw3 {px py pz : Pos} {w : Str} {a b c : Expr} {kt k2 : Nat} {pt pt2 : Pos} (k : CkOk X W C ct) (h : parC3 C x px y py w pz a b c = true) :
    swappedStores [.Tuple [.Name x px, .Name y py, .Name w pz] kt pt] (.Tuple [a, b, c] k2 pt2) X.env = pure (some [x, y, w]) ∧ X.env.scope.names.lookup x = some .local ∧ X.env.scope.names.lookup y = some .local ∧ X.env.scope.names.lookup w = some .local ∧ x ≠ y ∧ x ≠ w ∧ y ≠ w := by
  unfold parC3 at h
  simp only [Bool.and_eq_true, decide_eq_true_eq] at h
  obtain ⟨⟨⟨⟨⟨⟨⟨⟨⟨⟨⟨⟨⟨h1, h2⟩, h3⟩, h3'⟩, h4⟩, h4'⟩, h5⟩, h6⟩, h6'⟩, h7⟩, h7'⟩, h7''⟩, h8⟩, h9⟩ := h
  have hb := fnK_ok k h1
  have kd : ∀ {u : Str}, C.sc.names.lookup u = some .local → X.env.kindOf u = some .local := fun {u} q => by
    show X.env.scope.names.lookup u = _
    rw [k.sc]; exact q
  have k1 := kd h2
  have k2' := kd h3
  have k3' := kd h3'
  refine ⟨?_, k1, k2', k3', h7, h7', h7''⟩
  have st : ([a, b, c].any fun | .Starred .. => true | _ => false) = false := by
    have s1 : ∀ e : Expr, nst e = true → (match e with | .Starred .. => true | _ => false) = false := fun e he => by
      cases e <;> first | rfl | cases he
    simp only [List.any_cons, List.any_nil, Bool.or_false, s1 a h5, s1 b h6, s1 c h6']
  have ne1 : (y == x) = false := beq_eq_false_iff_ne.mpr fun q => h7 q.symm
  have ne2 : (w == x) = false := beq_eq_false_iff_ne.mpr fun q => h7' q.symm
  have ne3 : (w == y) = false := beq_eq_false_iff_ne.mpr fun q => h7'' q.symm
  have f1 : [a, b, c].all (foldedForSure 8) = false := by
    simp only [List.all_cons, List.all_nil, Bool.and_true]
    rw [← Bool.and_assoc]
    simpa only [Bool.not_eq_true'] using h8
  have f2 : [a, b, c].all (constantsAlone 8) = false := by
    simp only [List.all_cons, List.all_nil, Bool.and_true]
    rw [← Bool.and_assoc]
    simpa only [Bool.not_eq_true'] using h9
  have er : ([x, y, w] : List Str).eraseDups.length = 3 := by
    simp [List.eraseDups_cons, ne1, ne2, ne3, List.filter, h7, Ne.symm h7, h7', Ne.symm h7', h7'', Ne.symm h7'']
  have l3 : (px.line == px.line) = true := by simp
  have l4 : (py.line == px.line) = true := by simp [h4]
  have l5 : (pz.line == px.line) = true := by simp [h4']
  unfold swappedStores
  simp only [hb, st, f1, f2, k1, k2', k3', l4, l5, er, List.filterMap_cons, List.filterMap_nil, Expr.pos, List.head?_cons, Option.map_some, Option.getD_some, List.length_cons, List.length_nil, beq_self_eq_true, Bool.and_self, if_true, Bool.and_true, Bool.true_or, Bool.or_true, Bool.not_true, Bool.false_or, bne_self_eq_false, Bool.or_self, Bool.false_eq_true, if_false, pure_bind]
  refine if_neg fun q => ?_
  obtain ⟨e, he, h⟩ := List.any_eq_true.mp q
  have hn : nst e = true := by
    rcases List.mem_cons.mp he with rfl | he
    · exact h5
    · rcases List.mem_cons.mp he with rfl | he
      · exact h6
      · rcases List.mem_cons.mp he with rfl | he
        · exact h6'
        · cases he
  cases e <;> first | (cases h; done) | cases hn
theorem parX_ok {ts : List (Bool × Nat)} {es : List IE} {tgs vs : List Expr} {kt k2 : Nat} {pt pt2 pos : Pos} (k : CkOk X W C ct) (tk : L2.Takes X Wx) (h : parXC C ts tgs vs = true) (h2 : ckPs C ts es vs = true) : GS X W z Wx (.Assign [.Tuple tgs kt pt] (.Tuple vs k2 pt2) pos) (evParX ts (parFs ct ts es)) := by
  obtain ⟨P, eb⟩ := ckPs_ok (W := W) k tk ts es vs h2
  have nd : X.N.Nodup := by rw [k.hN]; exact k.nd
  have ne : ∀ {i j : Nat} {x y : Str}, C.N[i]? = some x → C.N[j]? = some y → x ≠ y → i ≠ j := fun {i j x y} h1 h2 hn q => by
    subst q
    rw [h1] at h2
    exact hn (Option.some.inj h2)
  unfold parXC at h
  split at h
  · simp only [Bool.and_eq_true, decide_eq_true_eq] at h
    obtain ⟨⟨a1, a2⟩, a3⟩ := h
    obtain ⟨w1, w2, w3, w4, w5, w6⟩ := par_hw k a3
    exact gs_parX2 k.calm nd (by rw [k.hN]; exact a1) (by rw [k.hN]; exact a2) (ne a1 a2 w6) w2 w3 P eb w1
  · simp only [Bool.and_eq_true, decide_eq_true_eq] at h
    obtain ⟨⟨⟨a1, a2⟩, a3⟩, a4⟩ := h
    obtain ⟨w1, w2, w3, w4, n1, n2, n3⟩ := par_hw3 k a4
    exact gs_parX3 k.calm nd (by rw [k.hN]; exact a1) (by rw [k.hN]; exact a2) (by rw [k.hN]; exact a3) (ne a1 a2 n1) (ne a1 a3 n2) (ne a2 a3 n3) w2 w3 w4 P eb w1
  · cases h
theorem nms_ok (k : CkOk X W C ct) : ∀ {es : List Expr} {ts : List (Bool × Nat)}, nmsC C es ts = true → NmsR X es (ts.map (·.2))
  | [], [], _ => True.intro
  | [], _ :: _, h => by cases h
  | _ :: _, [], h => by cases h
  | e :: es, (b, i) :: ts, h => by
    obtain ⟨h1, h2⟩ := Bool.and_eq_true_iff.mp (show (nmC1 C i e && nmsC C es ts) = true from h)
    refine ⟨?_, nms_ok k h2⟩
    cases e <;> first | (cases h1; done) | skip
    rename_i x p
    obtain ⟨a, b⟩ := Bool.and_eq_true_iff.mp (show (decide (C.N[i]? = some x) && lclC C x) = true from h1)
    obtain ⟨l1, l2⟩ := lcl_ok k b
    exact ⟨x, p, rfl, by rw [k.hN]; exact of_decide_eq_true a, l1, l2⟩
mutual
theorem ckS_ok : ∀ (s : IS) (st : Stmt) (X : Cx) (C : Cc) (z : En) (Wx : WX), CkOk X W C ct → L2.Takes X Wx → PassesOwn (model X.prog X.w) X.A X.env X.xe → ckS C s st = true → GS X W z Wx st (evS ct s)
  | .exp e, st, X, C, z, Wx, k, tk, ow, h => by
    unfold ckS at h
    split at h
    · obtain ⟨h1, h2⟩ := Bool.and_eq_true_iff.mp h
      exact gs_expr (b := true) (ckE_ok e .b _ X C z Wx ct k tk h2) (swN (by simpa using h1))
    · cases h
  | .set i e, st, X, C, z, Wx, k, tk, ow, h => by
    unfold ckS at h
    split at h
    · simp only [Bool.and_eq_true, decide_eq_true_eq] at h
      obtain ⟨⟨⟨⟨h1, h2⟩, h3⟩, h4⟩, h5⟩ := h
      obtain ⟨te, p, w, _⟩ := asg_ok (z := z) k tk h1 h2 h3 h4 h5
      exact gs_set_of p w
    · cases h
  | .new i e, st, X, C, z, Wx, k, tk, ow, h => by
    unfold ckS at h
    split at h
    · simp only [Bool.and_eq_true, decide_eq_true_eq] at h
      obtain ⟨⟨⟨⟨⟨h1, h2⟩, h3⟩, h4⟩, h6⟩, h5⟩ := h
      obtain ⟨te, p, _, w⟩ := asg_ok (z := z) k tk h1 h2 h3 h4 h5
      exact gs_new_of p (w h6)
    · cases h
  | .asg t e, st, X, C, z, Wx, k, tk, ow, h => by
    unfold ckS at h
    split at h
    · obtain ⟨h1, h2, h3⟩ := and3 h
      obtain ⟨s1, s2, s3⟩ := swSub (v := _) (l := _) (E := X.env) h1
      exact gs_asg (ckE_ok e .v _ X C z Wx ct k tk h3) (ckQ_ok k t _ h2) s1 s2 s3
    · cases h
  | .tas l e, st, X, C, z, Wx, k, tk, ow, h => by
    unfold ckS at h
    split at h
    · simp only [Bool.and_eq_true] at h
      obtain ⟨⟨⟨h1, h2⟩, h3⟩, h4⟩ := h
      obtain ⟨s1, s2, s3⟩ := swTup2 k h2
      obtain ⟨q1, q2⟩ := ckQs_ok (z := z) k l _ h1 h3
      exact gs_asg (ckE_ok e .v _ X C z Wx ct k tk h4) (gq_tup k.c k.calm q1 h1 q2) s1 s2 s3
    · cases h
  | .par i j a b, st, X, C, z, Wx, k, tk, ow, h => by
    unfold ckS at h
    split at h
    · simp only [Bool.and_eq_true, decide_eq_true_eq] at h
      obtain ⟨⟨⟨⟨h1, h2⟩, h3⟩, h4⟩, h5⟩ := h
      obtain ⟨w1, w2, w3, w4, w5, w6⟩ := par_hw k h3
      refine gs_par k.calm (by rw [k.hN]; exact k.nd) (by rw [k.hN]; exact h1) (by rw [k.hN]; exact h2) (fun q => ?_) w2 w3 (ckE_ok a .v _ X C z Wx ct k tk h4) (ckE_ok b .v _ X C z Wx ct k tk h5) w4 w5 w1
      subst q
      rw [h1] at h2
      exact w6 (Option.some.inj h2)
    · cases h
  | .parX ts es, st, X, C, z, Wx, k, tk, ow, h => by
    unfold ckS at h
    split at h
    · obtain ⟨h1, h2⟩ := Bool.and_eq_true_iff.mp h
      rcases Bool.or_eq_true_iff.mp h1 with h1 | h1
      · exact parX_ok k tk h1 h2
      · simp only [Bool.and_eq_true, decide_eq_true_eq] at h1
        obtain ⟨⟨⟨n1, n2⟩, n3⟩, n4⟩ := h1
        obtain ⟨s1, s2, s3⟩ := swTup2 k n3
        obtain ⟨P, eb⟩ := ckPs_ok (W := W) k tk ts es _ h2
        exact gs_parXT k.c k.calm (by rw [k.hN]; exact k.nd) (Nat.le_trans n2 (by decide)) (nms_ok k n4) n1 P eb s1 s2 s3
    · cases h
  | .app i e, st, X, C, z, Wx, k, tk, ow, h => by
    unfold ckS at h
    split at h
    · simp only [Bool.and_eq_true, decide_eq_true_eq] at h
      obtain ⟨⟨⟨⟨rfl, h2⟩, h3⟩, h4⟩, h5⟩ := h
      obtain ⟨n1, n2, n3, n4⟩ := nm_ok k h2
      exact gs_own k.c own_app n1 n2 n3 n4 (ckE_ok e .v _ X C z Wx ct k tk h5) h3 rfl h4
    · cases h
  | .appR i e, st, X, C, z, Wx, k, tk, ow, h => by
    unfold ckS at h
    split at h
    · simp only [Bool.and_eq_true, decide_eq_true_eq] at h
      obtain ⟨⟨⟨⟨rfl, h2⟩, h3⟩, h4⟩, h5⟩ := h
      obtain ⟨n1, n2, n3, n4⟩ := nm_ok k h2
      exact gs_ref k.c own_app n1 n2 n3 n4 (ckE_ok e .v _ X C z Wx ct k tk h5) h3 rfl h4
    · cases h
  | .ext i e, st, X, C, z, Wx, k, tk, ow, h => by
    unfold ckS at h
    split at h
    · simp only [Bool.and_eq_true, decide_eq_true_eq] at h
      obtain ⟨⟨⟨⟨rfl, h2⟩, h3⟩, h4⟩, h5⟩ := h
      obtain ⟨n1, n2, n3, n4⟩ := nm_ok k h2
      exact gs_own k.c own_ext n1 n2 n3 n4 (ckE_ok e .v _ X C z Wx ct k tk h5) h3 rfl h4
    · cases h
  | .rem i e, st, X, C, z, Wx, k, tk, ow, h => by
    unfold ckS at h
    split at h
    · simp only [Bool.and_eq_true, decide_eq_true_eq] at h
      obtain ⟨⟨⟨⟨rfl, h2⟩, h3⟩, h4⟩, h5⟩ := h
      obtain ⟨n1, n2, n3, n4⟩ := nm_ok k h2
      exact gs_own k.c (own_rem k.hu) n1 n2 n3 n4 (ckE_ok e .v _ X C z Wx ct k tk h5) h3 rfl h4
    · cases h
  | .ret e, st, X, C, z, Wx, k, tk, ow, h => by
    unfold ckS at h
    split at h
    · exact gs_ret (ckE_ok e .v _ X C z Wx ct k tk h)
    · cases h
  | .retN, st, X, C, z, Wx, k, tk, ow, h => by
    unfold ckS at h
    split at h
    · exact gs_retN
    · cases h
  | .ite c a b, st, X, C, z, Wx, k, tk, ow, h => by
    unfold ckS at h
    split at h
    · obtain ⟨h1, h2, h3⟩ := and3 h
      exact gs_if (ckE_ok c .t _ X C z Wx ct k tk h1).1 (ckSs_ok a _ X C z Wx k tk ow h2) (ckSs_ok b _ X C z Wx k tk ow h3)
    · cases h
  | .for_ t it b, st, X, C, z, Wx, k, tk, ow, h => by
    unfold ckS at h
    split at h
    · simp only [Bool.and_eq_true] at h
      obtain ⟨⟨⟨h1, h2⟩, h3⟩, h4⟩ := h
      exact gs_for ow k.calm (ckI_ok it false _ _ X C z Wx ct k tk h2) (ckT_ok k t _ _ h3 (fun hw => wk_tup h2 hw)) (ckSs_ok b _ X C z Wx k tk ow h4) (nsetC_ok h1)
    · cases h
  | .while_ c b, st, X, C, z, Wx, k, tk, ow, h => by
    unfold ckS at h
    split at h
    · obtain ⟨h1, h2⟩ := Bool.and_eq_true_iff.mp h
      exact gs_while ow (ckE_ok c .t _ X C z Wx ct k tk h1).1 (ckSs_ok b _ X C z Wx k tk ow h2)
    · cases h
  | .never, st, X, C, z, Wx, k, tk, ow, h => gs_never
  | .pass, st, X, C, z, Wx, k, tk, ow, h => by
    unfold ckS at h
    split at h
    · exact gs_pass
    · cases h
  | .fz l s, st, X, C, z, Wx, k, tk, ow, h => by
    unfold ckS at h
    exact gs_fz (ckS_ok s st X C z Wx k tk ow h)
theorem ckSs_ok : ∀ (l : List IS) (ss : List Stmt) (X : Cx) (C : Cc) (z : En) (Wx : WX), CkOk X W C ct → L2.Takes X Wx → PassesOwn (model X.prog X.w) X.A X.env X.xe → ckSs C l ss = true → GSs X W z Wx ss (evSs ct l)
  | [], ss, X, C, z, Wx, k, tk, ow, h => by
    unfold ckSs at h
    split at h
    · exact gss_nil
    · cases h
  | s :: r, ss, X, C, z, Wx, k, tk, ow, h => by
    unfold ckSs at h
    split at h
    · obtain ⟨h1, h2⟩ := Bool.and_eq_true_iff.mp h
      exact gss_cons (ckS_ok s _ X C z Wx k tk ow h1) (ckSs_ok r _ X C z Wx k tk ow h2)
    · cases h
end
end
end Ev
end
section
set_option maxHeartbeats 4000000
namespace Ev
open PySem PySem.Spec PyProof.Rows L2
/-! ### the program -/
structure FDef where
  ps : List Str
  N : List Str
  body : List IS
  cl : Bool := false
  lt : Option Nat := none
/-- a def that calls what it got -/
def hfnT (T : List (Str × FDef)) (gl : Str → Option D) (wf : Nat) : Str → List D → (List D → M D) → M D := fun f ds lam => match T.lookup f with
  | some d => runH (fun lam => evSs { fn := fun _ _ => stk, sig := fun _ => none, glob := gl, wf := wf, clo := lam } d.body) d.N.length ds lam
  | none => stk
/-- the defs by their call depth -/
def ctOf (T : List (Str × FDef)) (gl : Str → Option D) (wf : Nat) : Nat → CT
  | 0 => { fn := fun _ _ => stk, sig := fun f => (T.lookup f).map (·.ps), glob := gl, wf := wf }
  | 1 => { fn := fun f ds => (match T.lookup f with
      | some d => if d.lt.isSome then stk else runF (evSs (ctOf T gl wf 0) d.body) d.N.length ds
      | none => stk), sig := fun f => (T.lookup f).map (·.ps), glob := gl, wf := wf }
  | n + 2 => { fn := fun f ds => (match T.lookup f with
      | some d => if d.lt.isSome && decide (n = 0) then stk else runF (evSs (ctOf T gl wf (n + 1)) d.body) d.N.length ds
      | none => stk), sig := fun f => (T.lookup f).map (·.ps), glob := gl, wf := wf, fn2 := (ctOf T gl wf n).fn, hsig := fun f => (T.lookup f).map (·.ps), hfn := hfnT T gl wf }
theorem ctOf_sig {T gl wf} : ∀ n, (ctOf T gl wf n).sig = fun f => (T.lookup f).map (·.ps)
  | 0 => rfl
  | 1 => rfl
  | _ + 2 => rfl
theorem ctOf_glob {T gl wf} : ∀ n, (ctOf T gl wf n).glob = gl
  | 0 => rfl
  | 1 => rfl
  | _ + 2 => rfl
theorem ctOf_fn {T gl wf f d} (h : T.lookup f = some d) (hl : d.lt = none) : ∀ n, (ctOf T gl wf (n + 1)).fn f = runF (evSs (ctOf T gl wf n) d.body) d.N.length
  | 0 => by
    funext ds
    show (match T.lookup f with
      | some d => if d.lt.isSome then stk else runF (evSs (ctOf T gl wf 0) d.body) d.N.length ds
      | none => stk) = _
    rw [h]
    simp [hl]
  | n + 1 => by
    funext ds
    show (match T.lookup f with
      | some d => if d.lt.isSome && decide (n = 0) then stk else runF (evSs (ctOf T gl wf (n + 1)) d.body) d.N.length ds
      | none => stk) = _
    rw [h]
    simp [hl]
theorem ctOf_fn3 {T gl wf f d} (h : T.lookup f = some d) (n : Nat) : (ctOf T gl wf (n + 3)).fn f = runF (evSs (ctOf T gl wf (n + 2)) d.body) d.N.length := by
  funext ds
  show (match T.lookup f with
    | some d => if d.lt.isSome && decide (n + 1 = 0) then stk else runF (evSs (ctOf T gl wf (n + 2)) d.body) d.N.length ds
    | none => stk) = _
  rw [h]
  simp
def scOk (N ps : List Str) (sc : Scope) : Bool := (match sc.kind with | .function => true | _ => false) && !sc.isCoroutine && !sc.isGenerator && decide N.Nodup && decide (N.take ps.length = ps) && decide (ps.length ≤ N.length) &&
  ps.all (fun x => decide (sc.names.lookup x = some .local) || decide (sc.names.lookup x = some .cell)) && sc.names.all (fun y => !decide (y.2 = .free))
theorem and2 {a b : Bool} (h : (a && b) = true) : a = true ∧ b = true := Bool.and_eq_true_iff.mp h
theorem scOk_ok {N ps : List Str} {sc : Scope} (h : scOk N ps sc = true) : FnScope N ps sc ∧ ps.length ≤ N.length := by
  unfold scOk at h
  obtain ⟨h, h8⟩ := and2 h
  obtain ⟨h, h7⟩ := and2 h
  obtain ⟨h, h6⟩ := and2 h
  obtain ⟨h, h5⟩ := and2 h
  obtain ⟨h, h4⟩ := and2 h
  obtain ⟨h, h3⟩ := and2 h
  obtain ⟨h1, h2⟩ := and2 h
  refine ⟨⟨?_, by simpa using h2, by simpa using h3, of_decide_eq_true h4, of_decide_eq_true h5, fun x hx => ?_, fun y hy => ?_⟩, of_decide_eq_true h6⟩
  · revert h1
    cases sc.kind <;> intro h1 <;> first | rfl | cases h1
  · have := List.all_eq_true.mp h7 x hx
    simpa using this
  · have := List.all_eq_true.mp h8 y hy
    simpa using this
/-- a def of the program, checked -/
structure DfOk (K : PySem.W.Frag) (mg : Str → Option Value) (fns gl : List (Str × Str)) (bts : List Str) (hns : List (Str × Str)) (cs : List (Addr × Addr)) (qs : List Str) (x : Str) (d : FDef) : Prop where
  ex : ∃ (fa : Addr) (fd : FuncData) (params : Arguments) (body : List Stmt) (scope : Scope), FunD K x x params body scope [] [] fa fd ∧ mg x = some (.ref fa) ∧ parOk params d.ps = true ∧ scOk d.N d.ps scope = true ∧
    ckSs ⟨d.N, scope, true, fns, gl, bts, hns, false, d.lt, none⟩ d.body body = true ∧ ∀ t, d.lt = some t → ∃ c P, cs[t]? = some (c, P) ∧ fd.code = .ref c ∧ qs[t]? = some (x ++ ".<locals>." ++ "<lambda>")
structure DfOkH (K : PySem.W.Frag) (mg : Str → Option Value) (gl : List (Str × Str)) (bts : List Str) (x : Str) (d : FDef) : Prop where
  ex : ∃ (fa : Addr) (fd : FuncData) (params : Arguments) (body : List Stmt) (scope : Scope), FunD K x x params body scope [] [] fa fd ∧ mg x = some (.ref fa) ∧ parOk params d.ps = true ∧ scOk d.N d.ps scope = true ∧
    ckSs ⟨d.N, scope, true, [], gl, bts, [], true, none, none⟩ d.body body = true
theorem simple_of {K : PySem.W.Frag} {x qual : Str} {params : Arguments} {body : List Stmt} {scope : Scope} {fa : Addr} {fd : FuncData} {ps : List Str} (F : FunD K x qual params body scope [] [] fa fd) (h : parOk params ps = true) : Simple fd ps := by
  obtain ⟨oc, od, dV, kV, doc, pm, an, cdv, ct, osl, rfl, lk, hcd, df, _⟩ := F.ex
  unfold parOk at h
  obtain ⟨h, h5⟩ := and2 h
  obtain ⟨h, h4⟩ := and2 h
  obtain ⟨h, h3⟩ := and2 h
  obtain ⟨h1, h2⟩ := and2 h
  have edf : dV = .none := by
    rcases df with ⟨_, e⟩ | ⟨e, _⟩
    · exact e
    · exact absurd rfl e
  exact ⟨by simpa using h1, of_decide_eq_true h2, by simpa using h3, by simpa using h4, by simpa using h5, edf⟩
section
variable {P : Program} {w : World} {K : PySem.W.Frag} {mg : Str → Option Value} {base : Heap} {W : Wd} {T : List (Str × FDef)} {gl : Str → Option D} {wf : Nat} {fns gls : List (Str × Str)} {bts : List Str}
structure GlOk (W : Wd) (mg : Str → Option Value) (gl : Str → Option D) (gls : List (Str × Str)) (bts : List Str) : Prop where
  bt : ∀ x ∈ bts, mg x = none
  gl : ∀ q ∈ gls, ∀ d, gl q.2 = some d → ∃ v u, mg q.1 = some u ∧ RelV v u ∧ ∀ mu m H, Rep W mu m H d v
theorem hns_ok (eK : W.K = K) (emg : W.mg = mg) (ew : W.w = w) (G : GlOk W mg gl gls bts) {k : Nat} {x : Str} {d : FDef} (h : DfOkH K mg gls bts x d) :
    ∃ fa fd, FnH P w K mg base W k fa fd d.ps (runH (fun lam => evSs { fn := fun _ _ => stk, sig := fun _ => none, glob := gl, wf := wf, clo := lam } d.body) d.N.length) ∧ mg x = some (.ref fa) ∧ PySem.W.keepIn K (.ref fa) = true ∧ Simple fd d.ps ∧ d.ps.Nodup := by
  obtain ⟨⟨fa, fd, params, body, scope, F, hm, hp, hs, hc⟩⟩ := h
  obtain ⟨S, hl⟩ := scOk_ok hs
  refine ⟨fa, fd, ?_, hm, F.kp, simple_of F hp, by rw [← S.pre]; exact S.nd.sublist (List.take_sublist _ _)⟩
  obtain ⟨oc, od, dV, kV, doc, pm, an, cdv, ct, osl, rfl, lk, hcd, _, _⟩ := F.ex
  refine fnH_of lk hcd S eK emg ew hl fun z E X W' lam e1 e2 e3 bx clo => ?_
  refine ckSs_ok (ct := { fn := fun _ _ => stk, sig := fun _ => none, glob := gl, wf := wf, clo := lam }) d.body body X ⟨d.N, scope, true, [], gls, bts, [], true, none, none⟩ z _
    ⟨bx.c, bx.hN, S.nd, bx.sc, bx.calm, bx.gd, ?_, fun _ => bx.fn, fun x hx => ?_, fun p hp d' e => ?_, fun p hp => by simp at hp, fun _ => clo, (fun t e => by cases e), fun s e => by cases e⟩ bx.tk bx.own hc
  · have := bx.room.un
    omega
  · rw [bx.c.2.1, e2, emg]
    exact G.bt x hx
  · rw [bx.c.2.1, e2, emg]
    obtain ⟨v, u, a1, a2, a3⟩ := G.gl p hp d' e
    exact ⟨v, u, a1, a2, fun mu m H => (rep_same e1 e2 e3 d' v).mpr (a3 mu m H)⟩
theorem prog_ok (eK : W.K = K) (emg : W.mg = mg) (ew : W.w = w) (ec : W.cl = none) (G : GlOk W mg gl gls bts) {hns : List (Str × Str)} {cs : List (Addr × Addr)} {qs : List Str} (et : W.tabs = (cs.map (·.2)).zip qs) (hTB : ∀ p ∈ cs, LamX.TabB base mg p.1 p.2)
    (hH : ∀ q ∈ hns, ∃ d, T.lookup q.2 = some d ∧ DfOkH K mg gls bts q.1 d) (hT : ∀ q ∈ fns, ∃ d, T.lookup q.2 = some d ∧ DfOk K mg fns gls bts hns cs qs q.1 d) : ∀ (n : Nat), ∀ q ∈ fns, ∃ d fa fd, T.lookup q.2 = some d ∧
    FnG P w K mg base (L2.CX P w) n fa fd d.ps (spOf W d.ps.length ((ctOf T gl wf n).fn q.2)) ∧ mg q.1 = some (.ref fa) ∧ PySem.W.keepIn K (.ref fa) = true ∧ Simple fd d.ps ∧ ∃ oc od osl, K.lookup fa = some ⟨oc, od, .func fd, osl⟩ := by
  intro n
  induction n using Nat.strongRecOn with
  | ind n ih =>
    intro q hq
    obtain ⟨d, hd, ⟨fa, fd, params, body, scope, F, hm, hp, hs, hc, hlam⟩⟩ := hT q hq
    have lk0 : ∃ oc od osl, K.lookup fa = some ⟨oc, od, .func fd, osl⟩ := by
      obtain ⟨oc, od, dV, kV, doc, pm, an, cdv, ct, osl, e, lk, _⟩ := F.ex
      exact ⟨oc, od, osl, lk⟩
    refine ⟨d, fa, fd, hd, ?_, hm, F.kp, simple_of F hp, lk0⟩
    have stuck : (∀ ds, (ctOf T gl wf n).fn q.2 ds = stk) → FnG P w K mg base (L2.CX P w) n fa fd d.ps (spOf W d.ps.length ((ctOf T gl wf n).fn q.2)) := fun hst =>
      ⟨fun vs H Q E h => h.1, fun A outer s H args us vs Q E hr hg e0 hb r h => by
        obtain ⟨_, mu0, m, A, ds, _, _, _, h⟩ := h
        rw [hst] at h
        exact h.elim⟩
    cases n with
    | zero => exact stuck fun _ => rfl
    | succ n =>
      by_cases hst : d.lt.isSome = true ∧ n < 2
      · refine stuck fun ds => ?_
        obtain ⟨h1, h2⟩ := hst
        match n, h2 with
        | 0, _ =>
          show (match T.lookup q.2 with
            | some d => if d.lt.isSome then stk else runF (evSs (ctOf T gl wf 0) d.body) d.N.length ds
            | none => stk) = _
          rw [hd]
          exact if_pos h1
        | 1, _ =>
          show (match T.lookup q.2 with
            | some d => if d.lt.isSome && decide (0 = 0) then stk else runF (evSs (ctOf T gl wf 1) d.body) d.N.length ds
            | none => stk) = _
          rw [hd]
          exact if_pos (by simp [h1])
      · have ef : (ctOf T gl wf (n + 1)).fn q.2 = runF (evSs (ctOf T gl wf n) d.body) d.N.length := by
          cases hl : d.lt with
          | none => exact ctOf_fn hd hl n
          | some t =>
            have hn : ¬ n < 2 := fun z => hst ⟨by rw [hl]; rfl, z⟩
            obtain ⟨m, rfl⟩ : ∃ m, n = m + 2 := ⟨n - 2, by omega⟩
            exact ctOf_fn3 hd m
        rw [ef]
        obtain ⟨S, hl⟩ := scOk_ok hs
        obtain ⟨oc, od, dV, kV, doc, pm, an, cdv, ct, osl, rfl, lk, hcd, _, _⟩ := F.ex
        refine fnG_of lk hcd S eK emg ew ec hl fun z E X bx => ?_
        have lower : ∀ j, j ≤ n → ∀ p ∈ fns, ∃ ps, (ctOf T gl wf n).sig p.2 = some ps ∧ ∃ (fa : Addr) (fd : FuncData), FnG X.prog X.w X.K X.mg X.base (L2.CX X.prog X.w) j fa fd ps (spOf W ps.length ((ctOf T gl wf j).fn p.2)) ∧ X.mg p.1 = some (.ref fa) ∧ PySem.W.keepIn X.K (.ref fa) = true ∧ Simple fd ps := fun j hj p hp => by
          obtain ⟨d1, fa1, fd1, e1, F1, m1, k1, s1, _⟩ := ih j (by omega) p hp
          refine ⟨d1.ps, by rw [ctOf_sig]; show (T.lookup p.2).map _ = _; rw [e1]; rfl, fa1, fd1, ?_, ?_, ?_, s1⟩
          · rw [bx.hP, bx.hw, bx.hb, bx.c.1, eK, bx.c.2.1, emg]
            exact F1
          · rw [bx.c.2.1, emg]
            exact m1
          · rw [bx.c.1, eK]
            exact k1
        refine ckSs_ok d.body body X ⟨d.N, scope, true, fns, gls, bts, hns, false, d.lt, none⟩ z _ ⟨bx.c, bx.hN, S.nd, bx.sc, bx.calm, bx.gd, ?_, fun _ => bx.fn, fun x hx => ?_, fun p hp d' e => ?_, fun p hp => ?_, (fun e => by cases e), fun t e => ?_, fun s e => by cases e⟩ bx.tk bx.own hc
        · have := bx.room.un
          omega
        · rw [bx.c.2.1, emg]
          exact G.bt x hx
        · rw [ctOf_glob] at e
          rw [bx.c.2.1, emg]
          exact G.gl p hp d' e
        · obtain ⟨ps, es, fa1, fd1, F1, m1, k1, s1⟩ := lower n (Nat.le_refl _) p hp
          exact ⟨ps, es, ⟨n, fa1, fd1, F1, bx.room, m1, k1, s1⟩⟩
        · have e : d.lt = some t := e
          have hn : ¬ n < 2 := fun z => hst ⟨by rw [e]; rfl, z⟩
          obtain ⟨m, rfl⟩ : ∃ m, n = m + 2 := ⟨n - 2, by omega⟩
          obtain ⟨c, P', h1, h2, h3⟩ := hlam t e
          have h2 : cdv = .ref c := h2
          refine ⟨ec, ⟨c, P', by rw [bx.code, h2], ?_, ?_⟩, m, bx.room, fun p hp => lower m (by omega) p hp, fun p hp => ?_⟩
          · rw [bx.hb, bx.c.2.1, emg]
            exact hTB _ (List.mem_of_getElem? h1)
          · rw [et, List.getElem?_zip_eq_some, List.getElem?_map, h1, bx.qual]
            exact ⟨rfl, h3⟩
          · obtain ⟨d1, e1, H1⟩ := hH p hp
            obtain ⟨fa1, fd1, F1, m1, k1, s1, n1⟩ := hns_ok (P := P) (base := base) (wf := wf) (k := m) eK emg ew G H1
            refine ⟨d1.ps, by show (T.lookup p.2).map _ = _; rw [e1]; rfl, ⟨fa1, fd1, ?_, ?_, ?_, s1, n1⟩⟩
            · have eh : (ctOf T gl wf (m + 2)).hfn p.2 = runH (fun lam => evSs { fn := fun _ _ => stk, sig := fun _ => none, glob := gl, wf := wf, clo := lam } d1.body) d1.N.length := by
                funext ds lam
                show hfnT T gl wf p.2 ds lam = _
                unfold hfnT
                rw [e1]
              rw [eh, bx.hP, bx.hw, bx.hb, bx.c.1, eK, bx.c.2.1, emg]
              exact F1
            · rw [bx.c.2.1, emg]
              exact m1
            · rw [bx.c.1, eK]
              exact k1
end
end Ev
end
section
set_option maxHeartbeats 4000000
namespace Ev
open PySem PySem.Spec PyProof.Rows L2
/-! ### the end of a law -/
theorem hid_base {h : Heap} {H : Hp} {a : Addr} {o : Obj} (hA : ∀ b, H b ≠ none → b = a) (ha : h.get? a = some o) (nd : ∀ es ep, o.data ≠ .dict es ep) {b : Addr} {m : Str → Option Value} (n : h.Ns b m) : (hidT h H).Ns b m := by
  obtain ⟨o', es, ep, e, d, r⟩ := n
  refine ⟨o', es, ep, hidT_get e ?_, d, r⟩
  cases q : H b with
  | none => rfl
  | some u =>
    have e' : b = a := hA b (by rw [q]; simp)
    subst e'
    rw [ha] at e
    cases e
    exact absurd d (nd es ep)
theorem hid_kin {h : Heap} {K : PySem.W.Frag} {H : Hp} {a : Addr} (hA : ∀ b, H b ≠ none → b = a) (KX : K.In h) (hK : H a ≠ none → K.lookup a = none) : K.In (hidT h H) := fun b o e => hidT_get (KX b o e) (by
  cases q : H b with
  | none => rfl
  | some u =>
    have e' : b = a := hA b (by rw [q]; simp)
    subst e'
    rw [hK (by rw [q]; simp)] at e
    cases e)
section
variable {P : Program} {w : World} {K : PySem.W.Frag} {mg mb : Str → Option Value} {k : Nat} {fa a : Addr} {fd : FuncData} {x : Str} {W : Wd} {r : List D → M D} {s1 : Shared} {vs : List Value} {ns : List Int}
theorem reps_ns {mu : Addr → Prop} {m : List Addr} {H : Hp} : ∀ {ns : List Int}, Reps W mu m H (ns.map D.int) (ns.map V.int)
  | [] => rfl
  | n :: ns => ⟨.int n, _, rfl, rfl, reps_ns⟩
/-- the start: the script at a, the tables -/
def At (K : PySem.W.Frag) (H : Hp) (a : Addr) (vs : List V) (cs : List Addr) : Prop := (∀ b ∈ cs, H b = some (.tbl #[])) ∧ (∀ b, H b = none ∨ b ∈ cs ∨ ∃ o xs, H b = some (.frz o (.lst xs))) ∧ FlL K (fun b => b ∈ cs) H a vs
theorem sp_law {cs : List Addr} {qs : List Str} (eK : W.K = K) (et : W.tabs = cs.zip qs) {H : Hp} {A' : AH} (h : At K H a (ns.map V.int) cs) (hn : cs.Nodup) (hq : cs.length = qs.length) (hr : r [.flst (ns.map .int)] (qs.map .tab) = .ok (.bl true) A') : spOf W 1 r [.ref a] H (fun v _ => v = .bl true) fun _ _ _ => False := by
  subst eK
  have mu : ∀ b, muOf (fun _ => False) cs ow0 b ↔ b ∈ cs := fun b => by
    refine ⟨fun z => ?_, fun z => .inr (.inl z)⟩
    rcases z with z | z | ⟨i, z⟩
    · exact z.elim
    · exact z
    · cases z
  refine ⟨rfl, fun _ => False, cs, qs.map .tab, [.flst (ns.map .int)], fun b z => ⟨_, h.1 b ((mu b).mp z), (fun _ z => by cases z), (fun _ _ z => by cases z)⟩, ⟨by rw [List.length_map]; exact hq, fun i j p e1 e2 => ?_, fun i p o e1 e2 => ?_, fun t P q e => by
    rw [et, List.getElem?_zip_eq_some] at e
    exact ⟨e.1, by rw [List.getElem?_map, e.2]; rfl⟩⟩, ⟨.ref a, [], rfl, ⟨a, ns.map V.int, rfl, ?_, reps_ns⟩, rfl⟩, ?_⟩
  · obtain ⟨hi, ei⟩ := List.getElem?_eq_some_iff.mp e1
    obtain ⟨hj, ej⟩ := List.getElem?_eq_some_iff.mp e2
    rcases Nat.lt_trichotomy i j with c | c | c
    · exact absurd (ei.trans ej.symm) (List.pairwise_iff_getElem.mp hn i j hi hj c)
    · exact c
    · exact absurd (ej.trans ei.symm) (List.pairwise_iff_getElem.mp hn j i hj hi c)
  · rw [List.getElem?_map] at e2
    cases eq : qs[i]? with
    | none => rw [eq] at e2; cases e2
    | some q =>
      rw [eq] at e2
      cases e2
      exact ⟨#[], h.1 p (List.mem_of_getElem? e1), True.intro, fun pos cv hc => by
        have z : codeAmong pos [] = some cv := hc
        simp [codeAmong] at z⟩
  · rcases h.2.2 with ⟨h1, h2⟩ | h1
    · exact .inl ⟨h1, fun z => h2 ((mu a).mp z)⟩
    · exact .inr h1
  · rw [hr]
    intro m' H' v _ _ _ rv
    exact rv
theorem law_callG {cs : List (Addr × Addr)} {qs : List Str} (KX : K.In s1.heap) (hns : s1.heap.Ns mainGlobals mg) (hb : s1.heap.Ns builtinsNs mb) (hbb : ∀ x : Str, x ≠ "__name__" → mb x = bootBuiltins x) (hlim : s1.heap.NoLimit) (hg : s1.gens = #[])
    (hT : ∀ p ∈ cs, s1.heap.get? p.2 = some { cls := .none, data := .fields #[] }) (nT : ∀ p ∈ cs, K.lookup p.2 = none) (C : ∀ p ∈ cs, PySem.W.CodeHd s1.heap p.1 p.2) (hnd : (cs.map (·.2)).Nodup) (hq : cs.length = qs.length)
    (hbm : ∃ (bm : Addr) (ob : Obj), mg "__builtins__" = some (.ref bm) ∧ bm ≠ builtinsNs ∧ s1.heap.get? bm = some ob ∧ ob.cls = .type "module" ∧ ob.dict = some builtinsNs ∧ ob.data = .plain)
    (ha : s1.heap.get? a = some { cls := .type "list", data := .seq vs.toArray }) (hi : IntsAre vs ns) (hl : ns.length ≤ sizeLine) (hr : Room k callerA)
    (F : ∀ base : Heap, K.In base → base.Ns mainGlobals mg → (∀ p ∈ cs, LamX.TabB base mg p.1 p.2) → FnG P w K mg base (L2.CX P w) k fa fd [x] (spOf W 1 r)) (hbind : ∀ (s : Shared) (u : Value), BindsTo s fd ⟨[u], []⟩ [(x, u)])
    (eK : W.K = K) (et : W.tabs = (cs.map (·.2)).zip qs) {A' : AH} (hrun : r [.flst (ns.map .int)] (qs.map .tab) = .ok (.bl true) A') :
    codeAny (model P w) callerA (.call (.ref fa) ⟨[.ref a], []⟩) (fun r s' => r = .ok (.ret (.bool true)) ∧ OldK s1.heap s'.heap ∧ s'.os = s1.os ∧ AllBare s'.gens) s1 := by
  have rv := vals_ints hi
  have lenV := hi.length
  have isT : ∀ b : Addr, b ∈ cs.map (·.2) → s1.heap.get? b = some { cls := .none, data := .fields #[] } := fun b hb => by
    obtain ⟨p, hp, e⟩ := List.mem_map.mp hb
    rw [← e]
    exact hT p hp
  have aT : a ∉ cs.map (·.2) := fun z => by
    have q := isT a z
    rw [ha] at q
    have z' : Data.seq vs.toArray _ = Data.fields #[] := congrArg Obj.data (Option.some.inj q)
    cases z'
  have memT : ∀ p ∈ cs, p.2 ∈ cs.map (·.2) := fun p hp => List.mem_map.mpr ⟨p, hp, rfl⟩
  have core : ∀ H : Hp, At K H a (ns.map V.int) (cs.map (·.2)) → HOk P w H s1.heap → (∀ b, H b ≠ none → b = a ∨ b ∈ cs.map (·.2)) → (H a ≠ none → K.lookup a = none) →
      codeAny (model P w) callerA (.call (.ref fa) ⟨[.ref a], []⟩) (fun r s' => r = .ok (.ret (.bool true)) ∧ OldK s1.heap s'.heap ∧ s'.os = s1.os ∧ AllBare s'.gens) s1 := by
    intro H hO hok hA hK
    have noD : ∀ {b : Addr} {o : Obj}, s1.heap.get? b = some o → (∀ vs n, o.data ≠ .seq vs n) → o.data ≠ .fields #[] → H b = none := fun {b o} e h1 h2 => by
      cases q : H b with
      | none => rfl
      | some u =>
        rcases hA b (by rw [q]; simp) with e' | e'
        · rw [e', ha] at e
          cases e
          exact (h1 _ _ rfl).elim
        · rw [isT b e'] at e
          cases e
          exact (h2 rfl).elim
    have nsK : ∀ {b : Addr} {m : Str → Option Value}, s1.heap.Ns b m → (hidT s1.heap H).Ns b m := fun {b m} ⟨o, es, ep, e, d, r⟩ => ⟨o, es, ep, hidT_get e (noD e (fun vs n z => by rw [d] at z; cases z) fun z => by rw [d] at z; cases z), d, r⟩
    have hKb : K.In (hidT s1.heap H) := fun b o e => hidT_get (KX b o e) (by
      cases q : H b with
      | none => rfl
      | some u =>
        rcases hA b (by rw [q]; simp) with e' | e'
        · rw [e'] at e q
          rw [hK (by rw [q]; simp)] at e
          cases e
        · obtain ⟨p, hp, ep⟩ := List.mem_map.mp e'
          rw [← ep, nT p hp] at e
          cases e)
    have hM : L2.Mod K mg (hidT s1.heap H) := ⟨hKb, nsK hns, ⟨mb, nsK hb, hbb⟩, let ⟨mc, h1, h2⟩ := hlim; ⟨mc, nsK h1, h2⟩⟩
    have TB : ∀ p ∈ cs, LamX.TabB (hidT s1.heap H) mg p.1 p.2 := fun p hp => by
      have hTp := hT p hp
      refine ⟨?_, ?_, fun z => ?_⟩
      · obtain ⟨o, us, file, tf, flags, tg, inF, text, tt, e1, r1, r2, r3, r4, r5, r6, r7, r8, hne⟩ := C p hp
        refine ⟨o, us, file, tf, flags, tg, inF, text, tt, hidT_get e1 (noD e1 (fun vs n z => ?_) fun z => ?_), r1, r2, r3, r4, r5, r6, r7, r8, hne⟩
        · rw [r2] at z
          cases z
        · rw [r2] at z
          cases z
          simp at r3
      · obtain ⟨bm, ob, b1, b2, b3, b4, b5, b6⟩ := hbm
        have nG : bm ≠ mainGlobals := fun q => by
          obtain ⟨o, es, ep, e, hd, _⟩ := hns
          rw [q, e] at b3
          cases b3
          rw [hd] at b6
          cases b6
        have nP : bm ≠ p.2 := fun q => by
          rw [q, hTp] at b3
          cases b3
          cases b6
        refine ⟨bm, ob, b1, b2, nG, nP, hidT_get b3 (noD b3 (fun vs n z => ?_) fun z => ?_), b4, b5, b6⟩
        · rw [b6] at z
          cases z
        · rw [b6] at z
          cases z
      · obtain ⟨o, es, ep, e, hd, _⟩ := hns
        rw [z, hTp] at e
        cases e
        cases hd
    have e0 : Env0 P w K mg (hidT s1.heap H) callerA [] s1 H := ⟨rfl, hM, fun b o e => of_hidT e, Nat.le_of_eq (hidT_size _ _), trivial, fun b hb => absurd (show b ∈ ([] : List Addr) from hb) (by simp), hok, .of_eq hg⟩
    refine codeAny_mono ((F _ hKb (nsK hns) TB).run callerA [] s1 H ⟨[.ref a], []⟩ [.ref a] [.ref a] _ _ hr rfl e0 (hbind s1 (.ref a)) (.cons rfl .nil) (sp_law eK et hO hnd (by rw [List.length_map]; exact hq) hrun)) fun r s' h => ?_
    cases r with
    | error e =>
      obtain ⟨_, _, _, _, _, _, _, _, _, _, _, _, z⟩ := h
      exact z.elim
    | ok fl =>
      cases fl with
      | next => exact False.elim h
      | brk => exact False.elim h
      | cont => exact False.elim h
      | ret u =>
        obtain ⟨v, H', os, bare, un, hok', r', q⟩ := h
        have q' : v = .bl true := q
        subst q'
        obtain rfl : u = Value.bool true := r'
        have key : ∀ b o, b ∉ cs.map (·.2) → s1.heap.get? b = some o → s'.heap.get? b = some o := fun b o nb e => by
          cases q : H b with
          | none => exact un.keep b o e q (by intro z; exact absurd (show b ∈ ([] : List Addr) from z) (by simp)) (by simp)
          | some u =>
            rcases hO.2.1 b with z | z | ⟨ob, xs, z⟩
            · rw [q] at z; cases z
            · exact absurd z nb
            · have z2 := un.frzs b ob _ z
              obtain ⟨e1, _⟩ := hok b _ z
              obtain ⟨e2, _⟩ := hok' b _ z2
              rw [e] at e1; cases e1
              exact e2
        have grown : ∀ p ∈ cs, ∃ more : Array Value, s'.heap.get? p.2 = some { cls := .none, data := .fields more } := fun p hp => by
          obtain ⟨more, z⟩ := un.tbls p.2 #[] (hO.1 _ (memT p hp))
          exact ⟨_, hok' p.2 _ z⟩
        refine ⟨rfl, ⟨fun b o e => ?_, fun b o e => ?_⟩, os, bare⟩
        · by_cases hb : b ∈ cs.map (·.2)
          · obtain ⟨p, hp, ep⟩ := List.mem_map.mp hb
            obtain ⟨more, hm⟩ := grown p hp
            rw [← ep] at e ⊢
            rw [hT p hp] at e
            cases e
            exact .inr (.inl ⟨((C p hp).tab (hT p hp)).isCodeTable, rfl, #[], more, rfl, by rw [Array.empty_append]; exact hm⟩)
          · exact .inl (key b o hb e)
        · by_cases hb : b ∈ cs.map (·.2)
          · obtain ⟨p, hp, ep⟩ := List.mem_map.mp hb
            obtain ⟨more, hm⟩ := grown p hp
            rw [← ep]
            exact ⟨_, hm⟩
          · exact ⟨o, key b o hb e⟩
  cases hk : K.lookup a with
  | some o =>
    have e := KX a o hk
    rw [ha] at e
    cases e
    refine core (fun b => if b ∈ cs.map (·.2) then some (.tbl #[]) else none) ⟨fun b hb => if_pos hb, fun b => ?_, .inr ⟨_, vs.toArray, _, hk, rfl, rfl, rfl, by rw [List.size_toArray, lenV]; exact hl, by simpa using rv⟩⟩ (fun b u z => ?_) (fun b z => ?_) fun z => absurd (show (if a ∈ cs.map (·.2) then some (HO.tbl #[]) else none) = none from if_neg aT) z
    · by_cases hb : b ∈ cs.map (·.2)
      · exact .inr (.inl hb)
      · exact .inl (if_neg hb)
    · by_cases hb : b ∈ cs.map (·.2)
      · have z' := (if_pos hb).symm.trans z
        cases z'
        exact isT b hb
      · have z' := (if_neg hb).symm.trans z
        cases z'
    · by_cases hb : b ∈ cs.map (·.2)
      · exact .inr hb
      · exact absurd (if_neg hb) z
  | none =>
    refine core (fun b => if b = a then some (.frz { cls := .type "list", data := .seq vs.toArray } (.lst (ns.map V.int))) else if b ∈ cs.map (·.2) then some (.tbl #[]) else none)
      ⟨fun b hb => (if_neg (show ¬ b = a from fun z => aT (by rw [← z]; exact hb))).trans (if_pos hb), fun b => ?_, .inl ⟨⟨{ cls := .type "list", data := .seq vs.toArray }, if_pos rfl⟩, aT⟩⟩ (fun b u z => ?_) (fun b z => ?_) fun _ => hk
    · by_cases hb : b = a
      · exact .inr (.inr ⟨_, _, if_pos hb⟩)
      · by_cases hb2 : b ∈ cs.map (·.2)
        · exact .inr (.inl hb2)
        · exact .inl ((if_neg hb).trans (if_neg hb2))
    · by_cases hb : b = a
      · have z' := (if_pos hb).symm.trans z
        cases z'
        rw [hb]
        exact ⟨ha, by rw [List.length_map]; exact hl, vs, _, rv, ha⟩
      · have z1 := (if_neg hb).symm.trans z
        by_cases hb2 : b ∈ cs.map (·.2)
        · have z' := (if_pos hb2).symm.trans z1
          cases z'
          exact isT b hb2
        · have z' := (if_neg hb2).symm.trans z1
          cases z'
    · by_cases hb : b = a
      · exact .inl hb
      · by_cases hb2 : b ∈ cs.map (·.2)
        · exact .inr hb2
        · exact absurd ((if_neg hb).trans (if_neg hb2)) z
theorem walk_ofG {l : PySem.W.OpenLaw} {n k : Nat} {q : Program} {loose : List Str} {XP : (Str → Option Value) → Heap → Prop} {YP : World → Heap → Prop} {d : DefRec} {x : Str} {qs : List Str}
    (hn : l.most = some n) (hn2 : n ≤ sizeLine) (hdf : d.params.defaults = []) (hr : Room k callerA)
    (F : ∀ (w : World) (mg : Str → Option Value) (fa : Addr) (h : Heap), YP w h → h.Ns mainGlobals mg → mg d.name = some (.ref fa) →
      ∃ (W : Wd) (fd : FuncData) (r : List D → M D) (cs : List (Addr × Addr)), W.tabs = (cs.map (·.2)).zip qs ∧ W.K.In h ∧ (∀ (s : Shared) (u : Value), BindsTo s fd ⟨[u], []⟩ [(x, u)]) ∧
        (∀ p ∈ cs, h.get? p.2 = some { cls := .none, data := .fields #[] }) ∧ (∀ p ∈ cs, W.K.lookup p.2 = none) ∧ (∀ p ∈ cs, PySem.W.CodeHd h p.1 p.2) ∧ (cs.map (·.2)).Nodup ∧ cs.length = qs.length ∧
        (∀ (ns : List Int), ns.length ≤ n → (∀ z ∈ ns, Builtin.Int.intBits z ≤ 1048576) → ∃ A', r [.flst (ns.map .int)] (qs.map .tab) = .ok (.bl true) A') ∧
        ∀ base : Heap, W.K.In base → base.Ns mainGlobals mg → (∀ p ∈ cs, LamX.TabB base mg p.1 p.2) → FnG l.prog w W.K mg base (L2.CX l.prog w) k fa fd [x] (spOf W 1 r)) :
    PySem.W.WalkO q loose XP YP l.row.toRowW d [] (fun f vs => PySem.call f vs) := by
  refine Att.attach_callB hn hdf fun w s₀ s₁ mg mb fa o pm cd doc a vs ns G Y ho hd hcd hmg hobj hints hlen hbits hg => ?_
  obtain ⟨W, fd, r, cs, et, KX, hb, hT, nT, C, hnd, hq, hrun, hF⟩ := F w mg fa _ Y G.T.g hmg
  obtain ⟨A', hA⟩ := hrun ns hlen hbits
  exact law_callG KX G.T.g G.T.b G.T.builtins G.T.nolimit hg hT nT C hnd hq G.T.bmain hobj hints (Nat.le_trans hlen hn2) hr hF hb rfl et hA
end
end Ev
end
section
set_option maxHeartbeats 4000000
namespace Ev
open PySem PySem.Spec PyProof.Rows L2
/-! ### the head: the defs, the constants -/
def toD (s : Stmt) : Option He.DefD := match s with
  | .FunctionDef n _ _ _ _ _ _ _ _ _ => some ⟨(n, none), n, n, defArgs s, defBody s, defScope s, [], []⟩
  | _ => none
def toDs (T : List (Str × FDef)) (b : List Stmt) : List He.DefD := (b.filterMap toD).filter fun d => (T.lookup d.name).isSome
theorem toDs_at {T : List (Str × FDef)} {b : List Stmt} {d : He.DefD} (h : d ∈ toDs T b) : d.at_ = (d.name, none) ∧ d.qual = d.name ∧ d.dfl = [] ∧ d.kwd = [] := by
  unfold toDs at h
  obtain ⟨h, _⟩ := List.mem_filter.mp h
  obtain ⟨s, _, e⟩ := List.mem_filterMap.mp h
  unfold toD at e
  split at e
  · cases e; exact ⟨rfl, rfl, rfl, rfl⟩
  · cases e
mutual
/-- a constant of the program -/
def glB (K : PySem.W.Frag) : D → Value → Bool
  | .non, u => match u with
    | .none => true
    | _ => false
  | .bl b, u => match u with
    | .bool c => b == c
    | _ => false
  | .int i, u => match u with
    | .int j _ => decide (i = j)
    | _ => false
  | .str s, u => match u with
    | .str t _ => decide (s = t)
    | _ => false
  | .tup ds, u => match u with
    | .ref p => (match K.lookup p with
      | some ⟨.type c, none, .seq its _, _⟩ => decide (c = "tuple") && decide (its.size ≤ sizeLine) && glBs K ds its.toList
      | _ => false)
    | _ => false
  | .flst ds, u => match u with
    | .ref p => (match K.lookup p with
      | some ⟨.type c, none, .seq its _, _⟩ => decide (c = "list") && decide (its.size ≤ sizeLine) && glBs K ds its.toList
      | _ => false)
    | _ => false
  | _, _ => false
def glBs (K : PySem.W.Frag) : List D → List Value → Bool
  | [], us => us.isEmpty
  | d :: ds, us => match us with
    | u :: r => glB K d u && glBs K ds r
    | [] => false
end
mutual
theorem glB_ok {W : Wd} : ∀ (d : D) (u : Value), glB W.K d u = true → ∃ v, RelV v u ∧ ∀ mu m H, Rep W mu m H d v
  | .non, u, h => by
    unfold glB at h
    split at h
    · exact ⟨.non, rfl, fun _ _ _ => rfl⟩
    · cases h
  | .bl b, u, h => by
    unfold glB at h
    split at h
    · cases eq_of_beq h
      exact ⟨.bl b, rfl, fun _ _ _ => rfl⟩
    · cases h
  | .int i, u, h => by
    unfold glB at h
    split at h
    · cases of_decide_eq_true h
      exact ⟨.int i, ⟨_, rfl⟩, fun _ _ _ => rfl⟩
    · cases h
  | .str s, u, h => by
    unfold glB at h
    split at h
    · cases of_decide_eq_true h
      exact ⟨.str s, ⟨_, rfl⟩, fun _ _ _ => rfl⟩
    · cases h
  | .tup ds, u, h => by
    unfold glB at h
    split at h
    · rename_i p
      split at h
      · rename_i c its n sl e
        obtain ⟨h1, h2⟩ := Bool.and_eq_true_iff.mp h
        obtain ⟨h0, h1⟩ := Bool.and_eq_true_iff.mp h1
        cases of_decide_eq_true h0
        obtain ⟨vs, r, k⟩ := glBs_ok ds _ h2
        exact ⟨.ref p, rfl, fun mu m H => ⟨p, vs, rfl, .inr ⟨_, its, n, e, rfl, rfl, rfl, of_decide_eq_true h1, r⟩, k mu m H⟩⟩
      · cases h
    · cases h
  | .flst ds, u, h => by
    unfold glB at h
    split at h
    · rename_i p
      split at h
      · rename_i c its n sl e
        obtain ⟨h1, h2⟩ := Bool.and_eq_true_iff.mp h
        obtain ⟨h0, h1⟩ := Bool.and_eq_true_iff.mp h1
        cases of_decide_eq_true h0
        obtain ⟨vs, r, k⟩ := glBs_ok ds _ h2
        exact ⟨.ref p, rfl, fun mu m H => ⟨p, vs, rfl, .inr ⟨_, its, n, e, rfl, rfl, rfl, of_decide_eq_true h1, r⟩, k mu m H⟩⟩
      · cases h
    · cases h
  | .lst _, u, h => by unfold glB at h; cases h
  | .dct _, u, h => by unfold glB at h; cases h
  | .ref _, u, h => by unfold glB at h; cases h
  | .fn _, u, h => by unfold glB at h; cases h
theorem glBs_ok {W : Wd} : ∀ (ds : List D) (us : List Value), glBs W.K ds us = true → ∃ vs, Vals vs us ∧ ∀ mu m H, Reps W mu m H ds vs
  | [], us, h => by
    unfold glBs at h
    cases us with
    | nil => exact ⟨[], .nil, fun _ _ _ => rfl⟩
    | cons _ _ => cases h
  | d :: ds, us, h => by
    unfold glBs at h
    split at h
    · obtain ⟨h1, h2⟩ := Bool.and_eq_true_iff.mp h
      obtain ⟨v, r1, k1⟩ := glB_ok d _ h1
      obtain ⟨vs, r2, k2⟩ := glBs_ok ds _ h2
      exact ⟨v :: vs, .cons r1 r2, fun mu m H => ⟨v, vs, rfl, k1 mu m H, k2 mu m H⟩⟩
    · cases h
end
def exB (gls : List (Str × D)) (tf : List He.Defn) (K : PySem.W.Frag) : Bool := (gls.all fun q => match PySem.W.nsIn K mainGlobals q.1 with
  | some (some u) => glB K q.2 u
  | _ => false) && decide (tf.map fun p => (He.cT K p).2).Nodup
def faOf (T : List (Str × FDef)) (bts : List Str) : List He.Fa := T.map (fun q => .glo q.1) ++ bts.map .free
def fnsOf (T : List (Str × FDef)) : List (Str × Str) := (T.filter fun q => !q.2.cl).map fun q => (q.1, q.1)
def hnsOf (T : List (Str × FDef)) : List (Str × Str) := (T.filter fun q => q.2.cl).map fun q => (q.1, q.1)
def ccOf (T : List (Str × FDef)) (gls : List (Str × D)) (bts : List Str) (d : FDef) (sc : Scope) : Cc := if d.cl then ⟨d.N, sc, true, [], gls.map fun q => (q.1, q.1), bts, [], true, none, none⟩ else ⟨d.N, sc, true, fnsOf T, gls.map fun q => (q.1, q.1), bts, hnsOf T, false, d.lt, none⟩
def chkD (T : List (Str × FDef)) (gls : List (Str × D)) (bts : List Str) (tf : List He.Defn) (qs : List Str) (b : List Stmt) (q : Str × FDef) : Bool := match (toDs T b).find? fun d => decide (d.name = q.1) with
  | some dd => parOk dd.params q.2.ps && scOk q.2.N q.2.ps dd.scope && ckSs (ccOf T gls bts q.2 dd.scope) q.2.body dd.body && (match q.2.lt with
    | none => true
    | some t => decide (tf[t]? = some (q.1, none)) && decide (qs[t]? = some (q.1 ++ ".<locals>." ++ "<lambda>")))
  | none => false
def lawChk (T : List (Str × FDef)) (gls : List (Str × D)) (bts : List Str) (tf : List He.Defn) (qs : List Str) (b : List Stmt) : Bool := ndS (T.map (·.1)) && decide (tf.length = qs.length) && T.all (chkD T gls bts tf qs b)
theorem lookup_nd {α : Type} {x : Str} {d : α} : ∀ {T : List (Str × α)}, ndS (T.map (·.1)) = true → (x, d) ∈ T → T.lookup x = some d
  | [], _, h => by simp at h
  | (y, e) :: T, hn, h => by
    obtain ⟨n1, n2⟩ := Bool.and_eq_true_iff.mp (show (!(T.map (·.1)).contains y && ndS (T.map (·.1))) = true from hn)
    rcases List.mem_cons.mp h with h' | h'
    · cases h'
      simp [List.lookup]
    · have ne : (x == y) = false := by
        refine beq_eq_false_iff_ne.mpr fun q => ?_
        subst q
        have : x ∈ T.map (·.1) := List.mem_map_of_mem (f := fun q : Str × α => q.1) h'
        rw [List.contains_iff_mem.mpr this] at n1
        cases n1
      simp only [List.lookup, ne]
      exact lookup_nd n2 h'
section
variable {T : List (Str × FDef)} {gls : List (Str × D)} {bts : List Str} {tf : List He.Defn} {qs : List Str} {b : List Stmt} {K : PySem.W.Frag} {w : World} {h : Heap} {mg : Str → Option Value}
abbrev glF (gls : List (Str × D)) : Str → Option D := fun x => gls.lookup x
abbrev lawHook (T : List (Str × FDef)) (gls : List (Str × D)) (bts : List Str) (tf : List He.Defn) (b : List Stmt) : PySem.W.Hook := He.hookX 5 (faOf T bts) (toDs T b) [] tf (exB gls tf)
theorem dfs_ok (hc : lawChk T gls bts tf qs b = true) (KX : K.In h) (G : h.Ns mainGlobals mg) (S : He.SaysX (faOf T bts) (toDs T b) [] tf (exB gls tf) w h K) :
    (∀ q ∈ hnsOf T, ∃ d, T.lookup q.2 = some d ∧ DfOkH K mg (gls.map fun q => (q.1, q.1)) bts q.1 d) ∧ (∀ q ∈ fnsOf T, ∃ d, T.lookup q.2 = some d ∧ DfOk K mg (fnsOf T) (gls.map fun q => (q.1, q.1)) bts (hnsOf T) (tf.map (He.cT K)) qs q.1 d) := by
  unfold lawChk at hc
  obtain ⟨hc, c3⟩ := and2 hc
  obtain ⟨c1, c2⟩ := and2 hc
  have key : ∀ x d, (x, d) ∈ T → ∃ (fd : FuncData) (dd : He.DefD), FunD K x x dd.params dd.body dd.scope [] [] (He.ga K x) fd ∧ mg x = some (.ref (He.ga K x)) ∧ parOk dd.params d.ps = true ∧ scOk d.N d.ps dd.scope = true ∧ ckSs (ccOf T gls bts d dd.scope) d.body dd.body = true ∧
      (match d.lt with
        | none => true
        | some t => decide (tf[t]? = some (x, none)) && decide (qs[t]? = some (x ++ ".<locals>." ++ "<lambda>"))) = true := fun x d hx => by
    have c := List.all_eq_true.mp c3 (x, d) hx
    unfold chkD at c
    split at c
    · rename_i dd e
      obtain ⟨c, k4⟩ := and2 c
      obtain ⟨c, k3⟩ := and2 c
      obtain ⟨k1, k2⟩ := and2 c
      have hm := List.mem_of_find?_eq_some e
      have hx' := List.find?_some e
      have hx' : dd.name = x := of_decide_eq_true hx'
      obtain ⟨a1, a2, a3, a4⟩ := toDs_at hm
      obtain ⟨fd, F⟩ := S.t.d.defs hm
      have g : mg x = some (.ref (He.ga K x)) := He.glo_ok KX G (S.t.d.facts (f := .glo x) (List.mem_append_left _ (List.mem_map_of_mem (f := fun q : Str × FDef => He.Fa.glo q.1) hx)))
      rw [a1, a2, hx'] at F
      have e1 : dd.dvs K = [] := by unfold He.DefD.dvs; rw [a3]; rfl
      have e2 : dd.kws K = [] := by unfold He.DefD.kws; rw [a4]; rfl
      rw [e1, e2] at F
      exact ⟨fd, dd, F, g, k1, k2, k3, k4⟩
    · cases c
  constructor
  · intro q hq
    unfold hnsOf at hq
    obtain ⟨⟨x, d⟩, hx, rfl⟩ := List.mem_map.mp hq
    obtain ⟨hx, hcl⟩ := List.mem_filter.mp hx
    obtain ⟨fd, dd, F, g, k1, k2, k3, k4⟩ := key x d hx
    refine ⟨d, lookup_nd c1 hx, ⟨⟨_, fd, _, _, _, F, g, k1, k2, ?_⟩⟩⟩
    have hcl : d.cl = true := hcl
    unfold ccOf at k3
    rw [if_pos hcl] at k3
    exact k3
  · intro q hq
    unfold fnsOf at hq
    obtain ⟨⟨x, d⟩, hx, rfl⟩ := List.mem_map.mp hq
    obtain ⟨hx, hcl⟩ := List.mem_filter.mp hx
    obtain ⟨fd, dd, F, g, k1, k2, k3, k4⟩ := key x d hx
    have hcl : d.cl = false := by simpa using hcl
    unfold ccOf at k3
    rw [if_neg (by rw [hcl]; decide)] at k3
    refine ⟨d, lookup_nd c1 hx, ⟨⟨_, fd, _, _, _, F, g, k1, k2, k3, fun t ht => ?_⟩⟩⟩
    rw [ht] at k4
    obtain ⟨k5, k6⟩ := and2 k4
    obtain ⟨oc, od, dV, kV, doc, pm, an, cdv, ct, osl, rfl, lk, hcd, _, _⟩ := id F.ex
    obtain ⟨c, rfl⟩ := He.codeIn_ref hcd
    have ec := He.codeOf_eq (p := (x, none)) lk rfl
    refine ⟨c, (He.cT K (x, none)).2, ?_, rfl, of_decide_eq_true k6⟩
    rw [List.getElem?_map, of_decide_eq_true k5]
    show some (He.codeOf K (x, none), He.tabOf K (He.codeOf K (x, none))) = some (c, He.tabOf K (He.codeOf K (x, none)))
    rw [ec]
theorem gl_of (KX : K.In h) (G : h.Ns mainGlobals mg) (S : He.SaysX (faOf T bts) (toDs T b) [] tf (exB gls tf) w h K) {W : Wd} (eK : W.K = K) : GlOk W mg (glF gls) (gls.map fun q => (q.1, q.1)) bts := by
  refine ⟨fun x hx => He.free_ok KX G (S.t.d.facts (f := .free x) (List.mem_append_right _ (List.mem_map.mpr ⟨x, hx, rfl⟩))), fun q hq d e => ?_⟩
  obtain ⟨⟨x, d0⟩, hx, rfl⟩ := List.mem_map.mp hq
  have hm : (x, d) ∈ gls := PySem.mem_of_lookup e
  have c := List.all_eq_true.mp (and2 S.more).1 (x, d) hm
  have c : (match PySem.W.nsIn K mainGlobals x with
    | some (some u) => glB K d u
    | _ => false) = true := c
  split at c
  · rename_i u e2
    rw [← eK] at c
    obtain ⟨v, r, k⟩ := glB_ok d u c
    exact ⟨v, u, PySem.W.mg_of KX G e2, r, k⟩
  · cases c
/-- a law over the program, from what its evaluator says -/
theorem law_walk {l : PySem.W.OpenLaw} {q : Program} {loose : List Str} {XP : (Str → Option Value) → Heap → Prop} {d : DefRec} {dl : FDef} {wf k : Nat} (hc : lawChk T gls bts tf qs b = true) (hn : l.most = some 63) (hd : d.name = "law") (hdf : d.params.defaults = []) (hr : Room k callerA)
    (hl : T.lookup ("law" : Str) = some dl) (hps : dl.ps = [("script" : Str)]) (hmem : (("law", "law") : Str × Str) ∈ fnsOf T)
    (hrun : ∀ ns : List Int, ns.length ≤ 63 → (∀ z ∈ ns, Builtin.Int.intBits z ≤ 1048576) → ∃ A', (ctOf T (glF gls) wf k).fn "law" [.flst (ns.map .int)] (qs.map .tab) = .ok (.bl true) A') :
    PySem.W.WalkO q loose XP (lawHook T gls bts tf b).says l.row.toRowW d [] (fun f vs => PySem.call f vs) := by
  refine walk_ofG (l := l) (n := 63) (k := k) (x := "script") (qs := qs) hn (by decide) hdf hr fun w mg fa h Y G hmg => ?_
  obtain ⟨K, KX, S⟩ := Y
  rw [hd] at hmg
  obtain ⟨hH, hT⟩ := dfs_ok hc KX G S
  obtain ⟨d1, e1, D1⟩ := hT _ hmem
  obtain ⟨⟨fa1, fd, params, body, scope, F, hm1, hp1, _⟩⟩ := D1
  have e1 : T.lookup ("law" : Str) = some d1 := e1
  rw [hl] at e1
  cases e1
  have hm1 : mg "law" = some (.ref fa1) := hm1
  rw [hmg] at hm1
  cases hm1
  have sm := simple_of F hp1
  have hex := and2 S.more
  have hnd : ((tf.map (He.cT K)).map (·.2)).Nodup := by rw [List.map_map]; exact of_decide_eq_true hex.2
  refine ⟨⟨w, K, mg, none, ((tf.map (He.cT K)).map (·.2)).zip qs⟩, fd, (ctOf T (glF gls) wf k).fn "law", tf.map (He.cT K), rfl, KX, fun s u => ?_, fun p hp => ?_, fun p hp => ?_, fun p hp => ?_, hnd, ?_, hrun, fun base hK hG hTB => ?_⟩
  · have bt := bind_to (ks := []) (ws := []) (us := [u]) (n := 1) sm rfl rfl (by rw [hps]; rfl)
    rw [hps] at bt
    exact .of_eq bt
  · obtain ⟨p0, h0, rfl⟩ := List.mem_map.mp hp
    exact S.empty p0 h0
  · obtain ⟨p0, h0, rfl⟩ := List.mem_map.mp hp
    exact S.out p0 h0
  · obtain ⟨p0, h0, rfl⟩ := List.mem_map.mp hp
    exact PySem.W.codeHd_of_K KX (S.hd p0 h0)
  · have := (and2 (and2 hc).1).2
    rw [List.length_map]
    exact of_decide_eq_true this
  · obtain ⟨d2, fa2, fd2, e2, F2, m2, k2, s2, lk2⟩ := prog_ok (P := l.prog) (w := w) (base := base) (T := T) (wf := wf) (W := ⟨w, K, mg, none, ((tf.map (He.cT K)).map (·.2)).zip qs⟩) rfl rfl rfl rfl (gl_of KX G S rfl) rfl hTB hH hT k _ hmem
    have e2 : T.lookup ("law" : Str) = some d2 := e2
    rw [hl] at e2
    cases e2
    have m2 : mg "law" = some (.ref fa2) := m2
    rw [hmg] at m2
    cases m2
    obtain ⟨oc, od, dV, kV, doc, pm, an, cdv, ct, osl, rfl, lk, _, _, _⟩ := id F.ex
    obtain ⟨oc2, od2, osl2, lk2⟩ := lk2
    rw [lk] at lk2
    cases lk2
    rw [hps] at F2
    exact F2
end
end Ev
end
section
set_option maxHeartbeats 2000000
namespace Ev
open PySem PySem.Spec PyProof.Rows L2
/-! ### for what the evaluator says -/
theorem pb {α β : Type} (a : α) (f : α → M β) : (M.pure a).bind f = f a := rfl
theorem bnd {α β : Type} {x : M α} {f : α → M β} {A A' : AH} {a : α} (h : x A = .ok a A') : x.bind f A = f a A' := by
  unfold M.bind
  rw [h]
theorem calm_at {α : Type} {x : M α} {A A' : AH} {a : α} (h : x A = .ok a A') : calm x A = .ok a A' := by
  unfold calm
  rw [h]
theorem ofS {α : Type} (a : α) : ofO (some a) = M.pure a := rfl
theorem grdT : grd true = M.pure () := rfl
theorem drf_tup (A : AH) (l : List D) : deref A (.tup l) = .tup l := rfl
theorem drf_lst (A : AH) (l : List D) : deref A (.lst l) = .lst l := rfl
theorem drf_flst (A : AH) (l : List D) : deref A (.flst l) = .flst l := rfl
theorem drf_int (A : AH) (i : Int) : deref A (.int i) = .int i := rfl
theorem drf_str (A : AH) (i : Str) : deref A (.str i) = .str i := rfl
theorem drf_bl (A : AH) (i : Bool) : deref A (.bl i) = .bl i := rfl
theorem drf_non (A : AH) : deref A .non = .non := rfl
theorem xi_tup (l : List D) (i : Int) : idxD (.tup l) (.int i) = atI l i := rfl
theorem xi_lst (l : List D) (i : Int) : idxD (.lst l) (.int i) = atI l i := rfl
theorem xi_flst (l : List D) (i : Int) : idxD (.flst l) (.int i) = atI l i := rfl
theorem etaP {α : Type} (a : α) : (fun A => M.pure a A) = M.pure a := rfl
theorem callC0 {c : CT} {f : Str} {xs : List D} {ps : List Str} (h : c.sig f = some ps) (hl : xs.length = ps.length) (hn : ps.Nodup) : callC c f xs [] = c.fn f xs := by
  have b : bindOk ps xs.length [] = true := by
    unfold bindOk
    simp [hl, ndS]
  unfold callC
  rw [h]
  show callOf ps (c.fn f) xs [] = _
  unfold callOf
  rw [List.map_nil, if_pos b, bindA_self hn hl]
/-- a comprehension -/
theorem comp_flat {xs : List D} {f : D → M (List D)} {g : D → List D} (h : ∀ x ∈ xs, f x = M.pure (g x)) : compM xs f = M.pure (xs.flatMap g) := by
  induction xs with
  | nil => rfl
  | cons x xs ih =>
    unfold compM
    rw [h x List.mem_cons_self, ih fun y hy => h y (List.mem_cons_of_mem _ hy)]
    rfl
theorem calmP {α : Type} (a : α) : calm (M.pure a) = M.pure a := rfl
theorem lc_flat {own : List Nat} {t : IT} {fi : Env → M (List D)} {fB : Env → M Bool} {fE : Env → M (List D)} {ρ ρ' : Env} {xs : List D} {g : D → List D} (h1 : fi ρ = M.pure xs) (h2 : slot0 ρ own = some ρ') (h3 : ∀ x ∈ xs, compF t fB fE ρ' x = M.pure (g x)) (h4 : (xs.flatMap g).length ≤ sizeLine) :
    evLc own t fi fB fE ρ = M.pure (.lst (xs.flatMap g)) := by
  unfold evLc
  rw [h1, pb, h2, ofS, pb, comp_flat h3, calmP, pb]
  have : decide ((xs.flatMap g).length ≤ sizeLine) = true := decide_eq_true h4
  rw [this]
  rfl
/-- .. an item each, of those that fit -/
theorem lc_map {own : List Nat} {t : IT} {fi : Env → M (List D)} {fB : Env → M Bool} {fE : Env → M (List D)} {ρ ρ' : Env} {α : Type} {l : List α} {inj : α → D} {p : α → Bool} {g : α → D} (h1 : fi ρ = M.pure (l.map inj)) (h2 : slot0 ρ own = some ρ')
    (h3 : ∀ x ∈ l, compF t fB fE ρ' (inj x) = M.pure (if p x then [g x] else [])) (h4 : l.length ≤ sizeLine) : evLc own t fi fB fE ρ = M.pure (.lst ((l.filter p).map g)) := by
  have key : ∀ m : List α, (∀ x ∈ m, x ∈ l) → compM (m.map inj) (compF t fB fE ρ') = M.pure ((m.filter p).map g) := by
    intro m hm
    induction m with
    | nil => rfl
    | cons x m ih =>
      rw [List.map_cons]
      unfold compM
      rw [h3 x (hm x List.mem_cons_self), pb, ih fun y hy => hm y (List.mem_cons_of_mem _ hy), pb]
      cases q : p x <;> simp [q]
  unfold evLc
  rw [h1, pb, h2, ofS, pb, key l (fun _ h => h), calmP, pb]
  have : decide (((l.filter p).map g).length ≤ sizeLine) = true := decide_eq_true (by
    rw [List.length_map]
    exact Nat.le_trans (List.length_filter_le _ _) h4)
  rw [this]
  rfl
theorem loop_nil {t : IT} {g : Env → M Fl} {ρ : Env} : loopF t g [] ρ = M.pure (.nx ρ) := rfl
/-- words of ints -/
abbrev dW (w : List Int) : D := .tup (w.map .int)
abbrev dWs (ws : List (List Int)) : D := .lst (ws.map dW)
/-! ### what == and < say -/
theorem pys_map2 : ∀ l : List D, D.pys l = l.map D.py
  | [] => rfl
  | d :: r => by
    show d.py :: D.pys r = _
    rw [pys_map2 r]
    rfl
/-- laid, of a depth -/
def okd (k : Nat) (d : D) : Prop := d.py.canLay0 = true ∧ d.py.depth ≤ k
theorem okd.ok {k : Nat} {d : D} (h : okd k d) (hk : k ≤ 60) : d.ok = true := by
  unfold D.ok
  rw [h.1]
  simpa using Nat.le_trans h.2 hk
theorem okd_int {i : Int} {k : Nat} : okd k (.int i) := ⟨rfl, Nat.zero_le _⟩
theorem all_okd {k : Nat} : ∀ {l : List D}, (∀ x ∈ l, okd k x) → PyData.canLayAll0 (D.pys l) = true ∧ PyData.depthAll (D.pys l) ≤ k
  | [], _ => ⟨rfl, Nat.zero_le _⟩
  | d :: r, h => by
    obtain ⟨a, b⟩ := h d List.mem_cons_self
    obtain ⟨c, e⟩ := all_okd fun x hx => h x (List.mem_cons_of_mem _ hx)
    refine ⟨?_, ?_⟩
    · show (PyData.canLay0 d.py && PyData.canLayAll0 (D.pys r)) = true
      rw [a, c]
      rfl
    · show max (PyData.depth d.py) (PyData.depthAll (D.pys r)) ≤ k
      omega
theorem okd_tup {k : Nat} {l : List D} (h : ∀ x ∈ l, okd k x) : okd (k + 1) (.tup l) := by
  obtain ⟨a, b⟩ := all_okd h
  refine ⟨a, ?_⟩
  show PyData.depthAll (D.pys l) + 1 ≤ k + 1
  omega
theorem okd_lst {k : Nat} {l : List D} (h : ∀ x ∈ l, okd k x) : okd (k + 1) (.lst l) := by
  obtain ⟨a, b⟩ := all_okd h
  refine ⟨a, ?_⟩
  show PyData.depthAll (D.pys l) + 1 ≤ k + 1
  omega
theorem okd_dW {w : List Int} : okd 2 (dW w) := okd_tup fun x hx => by
  obtain ⟨i, _, rfl⟩ := List.mem_map.mp hx
  exact okd_int
theorem ok_int (i : Int) : (D.int i).ok = true := okd.ok (okd_int (k := 1)) (by decide)
theorem ok_dW (w : List Int) : (dW w).ok = true := okd_dW.ok (by decide)
theorem eq_int (i j : Int) : eqD (.int i) (.int j) = decide (i = j) := by
  show (i == j) = _
  rfl
theorem eqAll_ints : ∀ u v : List Int, PyData.eqvAll (D.pys (u.map .int)) (D.pys (v.map .int)) = decide (u = v)
  | [], [] => rfl
  | [], _ :: _ => by rfl
  | _ :: _, [] => by rfl
  | i :: u, j :: v => by
    show ((i == j) && PyData.eqvAll (D.pys (u.map .int)) (D.pys (v.map .int))) = _
    rw [eqAll_ints u v]
    by_cases h1 : i = j
    · subst h1
      by_cases h2 : u = v <;> simp [h2]
    · simp [h1]
theorem eq_dW (u v : List Int) : eqD (dW u) (dW v) = decide (u = v) := eqAll_ints u v
theorem eq_self {d : D} (h : d.ok = true) : eqD d d = true := by
  unfold D.ok at h
  exact SeqAt.eqv_refl _ (Bool.and_eq_true_iff.mp h).1
theorem lt_int (i j : Int) : ltD (.int i) (.int j) = decide (i < j) := by
  show PyProof.Rows.lexLt PyProof.Rows.itemOrd [(Sum.inl i : Int ⊕ List Nat)] [(Sum.inl j : Int ⊕ List Nat)] = _
  rw [PyProof.Rows.lex_cons]
  show (decide (i < j) || (!decide (j < i) && false)) = _
  simp
def ltW : List Int → List Int → Bool
  | [], [] => false
  | [], _ :: _ => true
  | _ :: _, [] => false
  | i :: u, j :: v => decide (i < j) || (decide (i = j) && ltW u v)
theorem lt_toks : ∀ u v : List Int, PyProof.Rows.lexLt PyProof.Rows.itemOrd (PySem.W.keyToksAll (D.pys (u.map .int))) (PySem.W.keyToksAll (D.pys (v.map .int))) = ltW u v
  | [], [] => by rfl
  | [], _ :: _ => by rfl
  | _ :: _, [] => by rfl
  | i :: u, j :: v => by
    show PyProof.Rows.lexLt PyProof.Rows.itemOrd ((Sum.inl 1 : Int ⊕ List Nat) :: ((Sum.inl i : Int ⊕ List Nat) :: PySem.W.keyToksAll (D.pys (u.map .int)))) ((Sum.inl 1 : Int ⊕ List Nat) :: ((Sum.inl j : Int ⊕ List Nat) :: PySem.W.keyToksAll (D.pys (v.map .int)))) = _
    rw [PyProof.Rows.lex_self]
    unfold ltW
    by_cases h : i = j
    · subst h
      rw [PyProof.Rows.lex_self, lt_toks u v]
      simp
    · rw [PyProof.Rows.lex_diff (O := PyProof.Rows.itemOrd) (x := (Sum.inl i : Int ⊕ List Nat)) (y := (Sum.inl j : Int ⊕ List Nat)) (fun z => h (Sum.inl.inj z))]
      show decide (i < j) = _
      simp [h]
theorem lt_dW (u v : List Int) : ltD (dW u) (dW v) = ltW u v := lt_toks u v
theorem alk_int (i j : Int) : alikeD (.int i) (.int j) = true := rfl
theorem alkAll : ∀ u v : List Int, PySem.W.alikeAll (D.pys (u.map .int)) (D.pys (v.map .int)) = true
  | [], _ => by rfl
  | _ :: _, [] => by rfl
  | i :: u, j :: v => by
    show (true && PySem.W.alikeAll (D.pys (u.map .int)) (D.pys (v.map .int))) = true
    rw [alkAll u v]
    rfl
theorem alk_dW (u v : List Int) : alikeD (dW u) (dW v) = true := alkAll u v
theorem cEq_int (i j : Int) : cmpD .Eq (.int i) (.int j) = some (decide (i = j)) := by
  unfold cmpD
  rw [ok_int, ok_int, eq_int]
  rfl
theorem cNe_int (i j : Int) : cmpD .NotEq (.int i) (.int j) = some (!decide (i = j)) := by
  unfold cmpD
  rw [ok_int, ok_int, eq_int]
  rfl
theorem cLe_int (i j : Int) : cmpD .LtE (.int i) (.int j) = some (decide (i ≤ j)) := by
  unfold cmpD
  rw [ok_int, ok_int, alk_int]
  show some (!ltD (.int j) (.int i)) = _
  rw [lt_int]
  simp [← decide_not]
theorem cLt_int (i j : Int) : cmpD .Lt (.int i) (.int j) = some (decide (i < j)) := by
  unfold cmpD
  rw [ok_int, ok_int, alk_int]
  show some (ltD (.int i) (.int j)) = _
  rw [lt_int]
theorem cGt_int (i j : Int) : cmpD .Gt (.int i) (.int j) = some (decide (j < i)) := by
  unfold cmpD
  rw [ok_int, ok_int, alk_int]
  show some (ltD (.int j) (.int i)) = _
  rw [lt_int]
theorem cGe_int (i j : Int) : cmpD .GtE (.int i) (.int j) = some (decide (j ≤ i)) := by
  unfold cmpD
  rw [ok_int, ok_int, alk_int]
  show some (!ltD (.int i) (.int j)) = _
  rw [lt_int]
  simp [← decide_not]
theorem cEq_dW (u v : List Int) : cmpD .Eq (dW u) (dW v) = some (decide (u = v)) := by
  unfold cmpD
  rw [ok_dW, ok_dW, eq_dW]
  rfl
theorem cLt_dW (u v : List Int) : cmpD .Lt (dW u) (dW v) = some (ltW u v) := by
  unfold cmpD
  rw [ok_dW, ok_dW, alk_dW, lt_dW]
  rfl
theorem cNe_self {d : D} (h : d.ok = true) : cmpD .NotEq d d = some false := by
  unfold cmpD
  rw [h, eq_self h]
  rfl
theorem cEq_self {d : D} (h : d.ok = true) : cmpD .Eq d d = some true := by
  unfold cmpD
  rw [h, eq_self h]
  rfl
/-- by their codes -/
theorem ltW_of {B : Int} : ∀ {u v : List Int}, u.length = v.length → TS.Bd B u → TS.Bd B v → TS.code B u < TS.code B v → ltW u v = true
  | [], [], _, _, _, h => absurd h (Int.lt_irrefl _)
  | [], _ :: _, hl, _, _, _ => by cases hl
  | _ :: _, [], hl, _, _, _ => by cases hl
  | i :: u, j :: v, hl, hu, hv, h => by
    have hl' : u.length = v.length := by simpa using hl
    unfold ltW
    rcases Int.lt_trichotomy i j with c | c | c
    · simp [c]
    · subst c
      rw [TS.code_same hl'] at h
      simp [ltW_of hl' hu.tail hv.tail h]
    · have := TS.code_lt hl'.symm hv.tail hu.tail c
      omega
/-! ### repr -/
theorem sok_of (s : String) : PyData.strOk (Str.ofString s) = true := by
  rw [Str.ofString_eq_toList]
  unfold PyData.strOk
  rw [Array.all_eq_true']
  intro c hc
  have hc : c ∈ (s.toList.map Char.toNat).toArray := hc
  rw [List.mem_toArray] at hc
  obtain ⟨x, _, rfl⟩ := List.mem_map.mp hc
  have h := x.valid
  refine decide_eq_true ?_
  have e : x.toNat = x.val.toNat := rfl
  rw [e]
  rcases h with h | h
  · exact Nat.lt_trans h (by decide)
  · exact h.2
theorem sok_app {a b : Str} (h1 : PyData.strOk a = true) (h2 : PyData.strOk b = true) : PyData.strOk (a ++ b) = true := by
  unfold PyData.strOk at *
  show (a.cps ++ b.cps).all _ = true
  rw [Array.all_append, h1, h2]
  rfl
def shd (k : Nat) (d : D) : Prop := d.py.showable = true ∧ d.py.shown.length ≤ k ∧ PyData.strOk d.py.shown = true
theorem strlen_app (a b : Str) : (a ++ b).length = a.length + b.length := Array.size_append
theorem piled_le {k : Nat} : ∀ {ts : List Str}, (∀ t ∈ ts, t.length ≤ k) → piled ts ≤ ts.length * (k + 2)
  | [], _ => Nat.zero_le _
  | t :: ts, h => by
    rw [piled_cons, List.length_cons, Nat.succ_mul]
    have a := h t List.mem_cons_self
    have b := piled_le fun x hx => h x (List.mem_cons_of_mem _ hx)
    omega
theorem textFrom_le : ∀ (ts : List Str) (k : Nat) (acc : Str), (textFrom k acc ts).length ≤ acc.length + piled ts
  | [], k, acc => by show acc.length ≤ _; omega
  | t :: r, k, acc => by
    have := textFrom_le r (k + 1) (acc ++ (if k > 0 then ", " else "" : String) ++ t)
    rw [strlen_app, strlen_app] at this
    have e : ((if k > 0 then ", " else "" : String) : Str).length ≤ 2 := by
      split
      · exact Nat.le_refl _
      · exact Nat.zero_le _
    rw [piled_cons]
    show (textFrom (k + 1) (acc ++ (if k > 0 then ", " else "" : String) ++ t) r).length ≤ _
    omega
theorem sok_join : ∀ {ts : List Str}, (∀ t ∈ ts, PyData.strOk t = true) → PyData.strOk (Str.join ", " ts) = true
  | [], _ => by decide +kernel
  | [x], h => h x (by simp)
  | x :: y :: r, h => sok_app (sok_app (h x (by simp)) (sok_of _)) (sok_join fun t ht => h t (List.mem_cons_of_mem _ ht))
theorem sok_from : ∀ (ts : List Str) (k : Nat) (acc : Str), PyData.strOk acc = true → (∀ t ∈ ts, PyData.strOk t = true) → PyData.strOk (textFrom k acc ts) = true
  | [], _, _, h, _ => h
  | t :: r, k, acc, h, g => sok_from r (k + 1) _ (sok_app (sok_app h (sok_of _)) (g t (by simp))) fun x hx => g x (List.mem_cons_of_mem _ hx)
theorem shAll {k : Nat} : ∀ {l : List D}, (∀ x ∈ l, shd k x) → PyData.showableAll (D.pys l) = true ∧ (∀ t ∈ PyData.shownAll (D.pys l), t.length ≤ k) ∧ (PyData.shownAll (D.pys l)).length = l.length ∧ ∀ t ∈ PyData.shownAll (D.pys l), PyData.strOk t = true
  | [], _ => ⟨rfl, (fun _ h => by cases h), rfl, fun _ h => by cases h⟩
  | d :: r, h => by
    obtain ⟨a, b, b2⟩ := h d List.mem_cons_self
    obtain ⟨c, e, f, g⟩ := shAll fun x hx => h x (List.mem_cons_of_mem _ hx)
    refine ⟨?_, fun t ht => ?_, ?_, fun t ht => ?_⟩
    · show (PyData.showable d.py && PyData.showableAll (D.pys r)) = true
      rw [a, c]
      rfl
    · rcases List.mem_cons.mp (show t ∈ PyData.shown d.py :: PyData.shownAll (D.pys r) from ht) with rfl | ht
      · exact b
      · exact e t ht
    · show (PyData.shownAll (D.pys r)).length + 1 = _
      rw [f]
      rfl
    · rcases List.mem_cons.mp (show t ∈ PyData.shown d.py :: PyData.shownAll (D.pys r) from ht) with rfl | ht
      · exact b2
      · exact g t ht
theorem shd_int {i : Int} (h : i.natAbs.log2 < 1920) : shd 1921 (.int i) := ⟨decide_eq_true h, int_text_len_1921 h, sok_of _⟩
theorem shd_tup {k n : Nat} {l : List D} (h : ∀ x ∈ l, shd k x) (hn : l.length ≤ n) : shd (n * (k + 2) + 3) (.tup l) := by
  obtain ⟨a, b, c, g⟩ := shAll h
  refine ⟨a, ?_, sok_app (sok_app (sok_of _) (sok_join g)) (sok_of _)⟩
  show (tupleText (PyData.shownAll (D.pys l))).length ≤ _
  unfold tupleText
  rw [strlen_app, strlen_app]
  have e1 : (("(" : String) : Str).length = 1 := rfl
  have e2 : ((if (PyData.shownAll (D.pys l)).length == 1 then ",)" else ")" : String) : Str).length ≤ 2 := by
    split
    · exact Nat.le_refl _
    · exact Nat.le_succ 1
  have e3 : (Str.join ", " (PyData.shownAll (D.pys l))).length ≤ n * (k + 2) := by
    have p := piled_le b
    rw [c] at p
    have q : l.length * (k + 2) ≤ n * (k + 2) := Nat.mul_le_mul_right _ hn
    by_cases z : PyData.shownAll (D.pys l) = []
    · rw [z]
      exact Nat.zero_le _
    · have := join_length_add _ z
      omega
  omega
theorem shd_lst {k n : Nat} {l : List D} (h : ∀ x ∈ l, shd k x) (hn : l.length ≤ n) : shd (n * (k + 2) + 3) (.lst l) := by
  obtain ⟨a, b, c, g⟩ := shAll h
  refine ⟨a, ?_, sok_app (sok_from _ _ _ (sok_of _) g) (sok_of _)⟩
  show (listText (PyData.shownAll (D.pys l))).length ≤ _
  unfold listText
  rw [strlen_app]
  have e1 : (("[" : String) : Str).length = 1 := rfl
  have e2 : (("]" : String) : Str).length = 1 := rfl
  have t := textFrom_le (PyData.shownAll (D.pys l)) 0 "["
  have p := piled_le b
  rw [c] at p
  have q : l.length * (k + 2) ≤ n * (k + 2) := Nat.mul_le_mul_right _ hn
  omega
theorem shd.mono {j k : Nat} {d : D} (h : shd j d) (hk : j ≤ k) : shd k d := ⟨h.1, Nat.le_trans h.2.1 hk, h.2.2⟩
theorem repr_ok {k : Nat} {d : D} (h : shd k d) (ho : d.ok = true) (hk : k ≤ sizeLine) : bRepr [d] = some (.str d.py.shown) := by
  unfold bRepr
  have : (d.ok && d.py.showable && decide (d.py.shown.length ≤ sizeLine)) = true := by
    rw [ho, h.1]
    simpa using Nat.le_trans h.2.1 hk
  exact if_pos this
theorem shown_ok {k : Nat} {d : D} (h : shd k d) : (D.str d.py.shown).ok = true := by
  unfold D.ok
  have : (D.str d.py.shown).py.canLay0 = true := h.2.2
  rw [this]
  rfl
/-! ### rows of ints -/
theorem zipD_ints (u v : List Int) : zipD (u.map .int) (v.map .int) = (u.zip v).map fun p => .tup [.int p.1, .int p.2] := by
  unfold zipD
  rw [List.zip_map, List.map_map]
  rfl
theorem ints_map : ∀ l : List Int, ints? (l.map .int) = some l
  | [] => rfl
  | i :: l => by
    show (ints? (l.map .int)).map (i :: ·) = _
    rw [ints_map l]
    rfl
theorem bls_map : ∀ l : List Bool, bls? (l.map .bl) = some l
  | [] => rfl
  | i :: l => by
    show (bls? (l.map .bl)).map (i :: ·) = _
    rw [bls_map l]
    rfl
theorem all_bls (l : List Bool) : bAll [.lst (l.map .bl)] = some (.bl (l.all id)) := by
  show (match bls? (l.map .bl) with
    | some bs => some (D.bl (bs.all id))
    | none => none) = _
  rw [bls_map]
theorem max_ints (n : Int) (l : List Int) : bMaxA [.lst ((n :: l).map .int)] = some (.int (l.foldl max n)) := by
  have e : bMax1 [.lst ((n :: l).map .int)] = some (.int (l.foldl max n)) := by
    show (match ints? ((n :: l).map .int) with
      | some (n :: ns) => some (D.int (ns.foldl max n))
      | _ => none) = _
    rw [ints_map]
  unfold bMaxA
  rw [e]
theorem min_ints (n : Int) (l : List Int) : bMinA [.lst ((n :: l).map .int)] = some (.int (l.foldl min n)) := by
  have e : bMin1 [.lst ((n :: l).map .int)] = some (.int (l.foldl min n)) := by
    show (match ints? ((n :: l).map .int) with
      | some (n :: ns) => some (D.int (ns.foldl min n))
      | _ => none) = _
    rw [ints_map]
  unfold bMinA
  rw [e]
def off (u v : List Int) : Nat := ((u.zip v).filter fun p => !decide (p.1 = p.2)).length
theorem off_comm : ∀ u v : List Int, off u v = off v u
  | [], v => by cases v <;> rfl
  | i :: u, [] => rfl
  | i :: u, j :: v => by
    have ih := off_comm u v
    unfold off at ih ⊢
    simp only [List.zip_cons_cons, List.filter_cons]
    by_cases h : i = j
    · subst h
      simpa using ih
    · have h' : ¬ j = i := fun e => h e.symm
      simp [h, h', ih]
theorem off_self : ∀ u : List Int, off u u = 0
  | [] => rfl
  | i :: u => by
    have ih := off_self u
    unfold off at ih ⊢
    simp only [List.zip_cons_cons, List.filter_cons]
    simpa using ih
theorem off_zero : ∀ {u v : List Int}, u.length = v.length → off u v = 0 → u = v
  | [], [], _, _ => rfl
  | [], _ :: _, h, _ => by cases h
  | _ :: _, [], h, _ => by cases h
  | i :: u, j :: v, hl, h => by
    unfold off at h
    simp only [List.zip_cons_cons, List.filter_cons] at h
    by_cases e : i = j
    · subst e
      simp at h
      rw [off_zero (u := u) (v := v) (by simpa using hl) (by unfold off; simpa using h)]
    · simp [e] at h
theorem atI_neg1 (l : List D) : atI l (-1) = l.getLast? := by
  cases h : l.getLast? with
  | none =>
    rw [List.getLast?_eq_none_iff] at h
    subst h
    rfl
  | some v =>
    obtain ⟨ys, rfl⟩ := List.getLast?_eq_some_iff.mp h
    exact L2.atI_last ys v
theorem sz0 : decide (0 ≤ sizeLine) = true := by decide
theorem sz1 : decide (0 + 1 ≤ sizeLine) = true := by decide
theorem sz2 : decide (0 + 1 + 1 ≤ sizeLine) = true := by decide
theorem sz3 : decide (0 + 1 + 1 + 1 ≤ sizeLine) = true := by decide
theorem sz4 : decide (0 + 1 + 1 + 1 + 1 ≤ sizeLine) = true := by decide
theorem sz8 : decide (0 + 1 + 1 + 1 + 1 + 1 + 1 + 1 + 1 ≤ sizeLine) = true := by decide
theorem loop_cons {t : IT} {g : Env → M Fl} {d : D} {l : List D} {ρ : Env} : loopF t g (d :: l) ρ = ((ofO (evTp t d ρ)).bind g).bind fun fl => match fl with
    | .nx ρ' => loopF t g l ρ'
    | .rt v => M.pure (.rt v) := by
  rw [M.bind_assoc]
  rfl
/-- a loop that goes through, state by state -/
theorem loop_ok {t : IT} {g : Env → M Fl} (ρs : Nat → Env) {ds : List D} (h : ∀ i d, ds[i]? = some d → ((ofO (evTp t d (ρs i))).bind g) = M.pure (.nx (ρs (i + 1)))) : loopF t g ds (ρs 0) = M.pure (.nx (ρs ds.length)) := by
  have key : ∀ (k : Nat) (l : List D), ds.drop k = l → loopF t g l (ρs k) = M.pure (.nx (ρs (k + l.length))) := by
    intro k l
    induction l generalizing k with
    | nil => intro _; rfl
    | cons d l ih =>
      intro e
      have hd : ds[k]? = some d := by
        have := congrArg (fun z : List D => z[0]?) e
        simpa [List.getElem?_drop] using this
      have hl : ds.drop (k + 1) = l := by
        rw [← List.drop_drop, e]
        rfl
      have h1 := h k d hd
      rw [loop_cons, h1, pb]
      show loopF t g l (ρs (k + 1)) = _
      rw [ih (k + 1) hl, List.length_cons]
      congr 3
      omega
  have := key 0 ds rfl
  rw [Nat.zero_add] at this
  exact this
theorem low_sig {T : List (Str × FDef)} {gl : Str → Option D} {wf : Nat} (n : Nat) : (ctOf T gl wf (n + 2)).low.sig = fun f => (T.lookup f).map (·.ps) := rfl
theorem low_fn {T : List (Str × FDef)} {gl : Str → Option D} {wf : Nat} (n : Nat) : (ctOf T gl wf (n + 2)).low.fn = (ctOf T gl wf n).fn := rfl
theorem ctOf_hsig {T : List (Str × FDef)} {gl : Str → Option D} {wf : Nat} (n : Nat) : (ctOf T gl wf (n + 2)).hsig = fun f => (T.lookup f).map (·.ps) := rfl
theorem ctOf_hfn {T : List (Str × FDef)} {gl : Str → Option D} {wf : Nat} (n : Nat) : (ctOf T gl wf (n + 2)).hfn = hfnT T gl wf := rfl
theorem deref_at {A : AH} {r : Nat} {l : List D} (h : A[r]? = some (.lst l)) : deref A (.ref r) = .lst l := by
  show (match A[r]? with
    | some (.lst l) => D.lst l
    | some (.dct l) => D.dct l
    | _ => D.ref r) = _
  rw [h]
theorem mul_l {i : Int} (h : small i = true) (j : Int) : mulD (.int i) (.int j) = some (.int (i * j)) := by
  show (if (small i || small j || decide (i.natAbs.log2 + j.natAbs.log2 < 1000000)) = true then some (D.int (i * j)) else none) = _
  rw [h]
  rfl
theorem mul_r {j : Int} (h : small j = true) (i : Int) : mulD (.int i) (.int j) = some (.int (i * j)) := by
  show (if (small i || small j || decide (i.natAbs.log2 + j.natAbs.log2 < 1000000)) = true then some (D.int (i * j)) else none) = _
  rw [h, Bool.or_true]
  rfl
theorem mod_p {j : Int} (h : 0 < j) (i : Int) : modD (.int i) (.int j) = some (.int (i % j)) := by
  show (if 0 < j then some (D.int (i % j)) else none) = _
  rw [if_pos h]
theorem div_p {j : Int} (h : (decide (0 < j) && decide (j.natAbs.log2 < 9000)) = true) (i : Int) : divD (.int i) (.int j) = some (.int (i / j)) := by
  show (if (decide (0 < j) && decide (j.natAbs.log2 < 9000)) = true then some (D.int (i / j)) else none) = _
  rw [if_pos h]
/-- repr(x) != repr(x) -/
theorem repr_ne {k : Nat} {d : D} (h : shd k d) (ho : d.ok = true) (hk : k ≤ sizeLine) : cmpD .NotEq (.str d.py.shown) (.str d.py.shown) = some false := cNe_self (shown_ok h)
theorem mul3 (d : D) : mulD (.lst [d]) (.int 3) = some (.lst [d, d, d]) := by
  show (if (decide (0 ≤ (3 : Int)) && decide ((3 : Int) < 2 ^ 62) && decide ([d].length * (3 : Int).toNat ≤ sizeLine)) = true then some (D.lst (List.replicate (3 : Int).toNat [d]).flatten) else none) = _
  exact if_pos (show (decide (0 ≤ (3 : Int)) && decide ((3 : Int) < 2 ^ 62) && decide (1 * 3 ≤ sizeLine)) = true by decide)
theorem shd_dW {w : List Int} (h : ∀ x ∈ w, x.natAbs.log2 < 1920) (hl : w.length ≤ 4) : shd (4 * (1921 + 2) + 3) (dW w) := shd_tup (fun x hx => by
  obtain ⟨i, hi, rfl⟩ := List.mem_map.mp hx
  exact shd_int (h i hi)) (by rw [List.length_map]; exact hl)
/-! ### called by names -/
theorem callK {c : CT} {f : Str} {xs zs : List D} {ks : List (Str × D)} {ps : List Str} (h : c.sig f = some ps) (hb : bindOk ps xs.length (ks.map (·.1)) = true) (hz : bindA ps xs ks = zs) : callC c f xs ks = c.fn f zs := by
  unfold callC
  rw [h]
  show callOf ps (c.fn f) xs ks = _
  unfold callOf
  rw [if_pos hb, hz]
/-! ### least ones -/
theorem foldmin_le : ∀ (l : List Int) (n x : Int), x = n ∨ x ∈ l → l.foldl min n ≤ x
  | [], n, x, h => by
    rcases h with rfl | h
    · exact Int.le_refl _
    · cases h
  | y :: l, n, x, h => by
    show l.foldl min (min n y) ≤ x
    rcases h with rfl | h
    · exact Int.le_trans (foldmin_le l (min x y) _ (.inl rfl)) (Int.min_le_left _ _)
    · rcases List.mem_cons.mp h with rfl | h
      · exact Int.le_trans (foldmin_le l (min n x) _ (.inl rfl)) (Int.min_le_right _ _)
      · exact foldmin_le l _ x (.inr h)
theorem foldmin_ge : ∀ (l : List Int) (n c : Int), c ≤ n → (∀ x ∈ l, c ≤ x) → c ≤ l.foldl min n
  | [], n, c, h, _ => h
  | y :: l, n, c, h, hl => foldmin_ge l (min n y) c (by have := hl y (by simp); omega) fun x hx => hl x (List.mem_cons_of_mem _ hx)
theorem insF_len {α : Type} {f : α → Int} {k : α} : ∀ {l : List α}, (insF f k l).length ≤ l.length + 1
  | [] => Nat.le_refl _
  | x :: r => by
    unfold insF
    split
    · exact Nat.le_refl _
    · split
      · exact Nat.le_succ _
      · have := insF_len (f := f) (k := k) (l := r)
        simp only [List.length_cons]
        omega
theorem sortF_len {α : Type} {f : α → Int} : ∀ (l : List α), (sortF f l).length ≤ l.length
  | [] => Nat.le_refl _
  | k :: r => by
    have a := insF_len (f := f) (k := k) (l := sortF f r)
    have b := sortF_len (f := f) r
    show (insF f k (sortF f r)).length ≤ _
    simp only [List.length_cons]
    omega
theorem tups_map : ∀ l : List (List Int), tups? (l.map dW) = some l
  | [] => rfl
  | w :: l => by
    show (match ints? (w.map .int), tups? (l.map dW) with
      | some k, some t => some (k :: t)
      | _, _ => none) = _
    rw [ints_map, tups_map l]
theorem count_ints (w : List Int) (i : Int) : mCount (.tup (w.map .int)) [.int i] = some (.int ((w.count i : Nat) : Int)) := by
  have ho : ((D.int i).ok && (w.map D.int).all D.ok) = true := by
    rw [ok_int, Bool.true_and, List.all_eq_true]
    intro x hx
    obtain ⟨j, _, rfl⟩ := List.mem_map.mp hx
    exact ok_int j
  show (if ((D.int i).ok && (w.map D.int).all D.ok) = true then some (D.int (((w.map D.int).countP fun z => eqD z (.int i) : Nat) : Int)) else none) = _
  rw [if_pos ho, List.countP_map]
  have : (fun z => eqD z (D.int i)) ∘ D.int = fun z => z == i := by
    funext z
    show eqD (.int z) (.int i) = (z == i)
    rw [eq_int]
    rfl
  rw [this]
  rfl
theorem ss_ints {w : List Int} (h : w.length < 63) : ssD (.tup (w.map .int)) = some (.lst ((sortF idI w).map .int)) := by
  show (match ints? (w.map .int) with
    | some ns => if ns.length < 63 then some (D.lst ((sortF idI ns).map .int)) else none
    | none => none) = _
  rw [ints_map]
  exact if_pos h
theorem sum_ints (l : List Int) : bSum [.lst (l.map .int)] = some (.int l.sum) := by
  show (match ints? (l.map .int) with
    | some ns => some (D.int ns.sum)
    | none => none) = _
  rw [ints_map]
theorem any_bls (l : List Bool) : bAny [.lst (l.map .bl)] = some (.bl (l.any id)) := by
  show (match bls? (l.map .bl) with
    | some bs => some (D.bl (bs.any id))
    | none => none) = _
  rw [bls_map]
theorem tyAt_tup (f : MF) (l : List D) (h : "tuple" ∈ mTys f) : tyAt (mTys f) (.tup l) = M.pure "tuple" := by
  funext A
  show (if "tuple" ∈ mTys f then R.ok "tuple" A else .stuck) = _
  rw [if_pos h]
  rfl
theorem tyc_tup (l : List D) : tyAt (mTys .count) (.tup l) = M.pure "tuple" := tyAt_tup .count l (by decide)
theorem mthT_tup (op : D → List D → Option D) (l : List D) (xs : List D) : mthT op "tuple" (.tup l) xs = op (.tup l) xs := if_pos rfl
theorem rng_ok (i : Int) (h0 : 0 ≤ i) (h1 : i ≤ 16777216) : (decide (-(2 ^ 62) ≤ i) && decide (i < 2 ^ 62)) = true := by
  have a : -(2 ^ 62) ≤ i := by omega
  have b : i < 2 ^ 62 := by omega
  rw [decide_eq_true a, decide_eq_true b]
  rfl
theorem rng_len (n : Nat) (h : n ≤ 16777216) : (decide (-(2 ^ 62) ≤ (n : Int)) && decide ((n : Int) < 2 ^ 62)) = true := rng_ok (n : Int) (Int.natCast_nonneg n) (Int.ofNat_le.mpr h)
theorem rng1_ok {c : CT} {e : IE} {ρ : Env} {j : Int} (h : evE c e ρ = M.pure (.int j)) (h0 : 0 ≤ j) (h1 : j ≤ 16777216) : evI c (.rng1 e) ρ = M.pure (rangeD 0 j.toNat) := by
  show ((evE c e ρ).bind fun x => (ofO (asInt x)).bind fun j => (grd (decide (-(2 ^ 62) ≤ j) && decide (j < 2 ^ 62))).bind fun _ => M.pure (rangeD 0 j.toNat)) = _
  rw [h, pb]
  show ((grd (decide (-(2 ^ 62) ≤ j) && decide (j < 2 ^ 62))).bind fun _ => M.pure (rangeD 0 j.toNat)) = _
  rw [rng_ok j h0 h1]
  rfl
theorem rng1_nat {c : CT} {e : IE} {ρ : Env} {n : Nat} (h : evE c e ρ = M.pure (.int (n : Int))) (h1 : n ≤ 16777216) : evI c (.rng1 e) ρ = M.pure (rangeD 0 n) := by
  have := rng1_ok h (Int.natCast_nonneg n) (Int.ofNat_le.mpr h1)
  rw [Int.toNat_natCast] at this
  exact this
theorem rangeD_r (n : Nat) : rangeD 0 n = (List.range' 0 n).map fun (j : Nat) => D.int (j : Int) := by
  unfold rangeD
  rw [List.range_eq_range']
  refine List.map_congr_left fun i _ => ?_
  show D.int (0 + (i : Int)) = _
  rw [Int.zero_add]
end Ev
end
section
set_option maxHeartbeats 4000000
namespace Ev
open PySem PySem.Spec PyProof.Rows L2
/-! ### words, houses, lists of ints: no law in sight -/
theorem itO_l (l : List D) : itOf (.lst l) = some l := rfl
theorem itO_t (l : List D) : itOf (.tup l) = some l := rfl
theorem itO_f (l : List D) : itOf (.flst l) = some l := rfl
theorem itO_d (l : List (D × D)) : itOf (.dct l) = some (l.map (·.1)) := rfl
def dH (a b : Int) : D := .tup [.int a, .int b]
abbrev okH (a b : Int) : Prop := 2 ≤ a ∧ a ≤ 4 ∧ 2 ≤ b ∧ b ≤ 4
def isW (a b : Int) (w : List Int) : Prop := (w.length : Int) = a ∧ ∀ x ∈ w, 0 ≤ x ∧ x ≤ b - 1
theorem isW.len {a b : Int} {w : List Int} (h : isW a b w) (k : okH a b) : w.length ≤ 4 := by
  have := h.1
  obtain ⟨_, k2, _⟩ := k
  omega
theorem len_ok {n : Nat} (h : n ≤ 4) : n ≤ sizeLine := Nat.le_trans h (by decide)
def wN (b : Nat) : Nat → List (List Int)
  | 0 => [[]]
  | k + 1 => (wN b k).flatMap fun w => (List.range b).map fun (i : Nat) => w ++ [(i : Int)]
def wOf (a b : Int) : List (List Int) := wN b.toNat a.toNat
def hs : List (Int × Int) := [(2, 2), (2, 3), (3, 2), (2, 4), (4, 2), (3, 3), (3, 4), (4, 3)]
theorem all_isW : ∀ q ∈ hs, ∀ w ∈ wOf q.1 q.2, isW q.1 q.2 w := by
  have h : (hs.all fun q => (wOf q.1 q.2).all fun w => decide ((w.length : Int) = q.1) && w.all fun x => decide (0 ≤ x) && decide (x ≤ q.2 - 1)) = true := by decide +kernel
  intro q hq w hw
  have h1 := List.all_eq_true.mp (List.all_eq_true.mp h q hq) w hw
  obtain ⟨h2, h3⟩ := Bool.and_eq_true_iff.mp h1
  refine ⟨of_decide_eq_true h2, fun x hx => ?_⟩
  obtain ⟨h4, h5⟩ := Bool.and_eq_true_iff.mp (List.all_eq_true.mp h3 x hx)
  exact ⟨of_decide_eq_true h4, of_decide_eq_true h5⟩
theorem all_okH : ∀ q ∈ hs, okH q.1 q.2 := by
  have h : (hs.all fun q => decide (2 ≤ q.1) && decide (q.1 ≤ 4) && (decide (2 ≤ q.2) && decide (q.2 ≤ 4))) = true := by decide +kernel
  intro q hq
  have h1 := List.all_eq_true.mp h q hq
  simp only [Bool.and_eq_true, decide_eq_true_eq] at h1
  exact ⟨h1.1.1, h1.1.2, h1.2.1, h1.2.2⟩
theorem all_len : ∀ q ∈ hs, (wOf q.1 q.2).length ≤ 81 ∧ 0 < (wOf q.1 q.2).length := by
  have h : (hs.all fun q => decide ((wOf q.1 q.2).length ≤ 81) && decide (0 < (wOf q.1 q.2).length)) = true := by decide +kernel
  intro q hq
  have h1 := List.all_eq_true.mp h q hq
  simp only [Bool.and_eq_true, decide_eq_true_eq] at h1
  exact h1
theorem len81 {n : Nat} (h : n ≤ 81) : n ≤ sizeLine := Nat.le_trans h (by decide)
section
variable {a b : Int} (hq : (a, b) ∈ hs)
include hq
theorem isW_of {w : List Int} (h : w ∈ wOf a b) : isW a b w := all_isW _ hq w h
theorem wl {w : List Int} (h : w ∈ wOf a b) : w.length ≤ sizeLine := len_ok ((isW_of hq h).len (all_okH _ hq))
end
def Bg (r : Nat) (A : AH) : Prop := ∃ b0 b1 b2 : Int, A[r]? = some (.lst [.int b0, .int b1, .int b2])
theorem Bg.lt {r : Nat} {A : AH} (h : Bg r A) : r < A.length := by
  obtain ⟨_, _, _, h⟩ := h
  exact (List.getElem?_eq_some_iff.mp h).1
section
variable {a b : Int} (hq : (a, b) ∈ hs)
include hq
theorem wne : (wOf a b).map dW ≠ [] := fun e => by
  have := (all_len _ hq).2
  rw [List.map_eq_nil_iff] at e
  rw [e] at this
  cases this
theorem wlen : ((wOf a b).map dW).length < 1073741824 := by
  rw [List.length_map]
  exact Nat.lt_of_le_of_lt (all_len _ hq).1 (by decide)
end
theorem drf_dH (A : AH) (a b : Int) : deref A (dH a b) = dH a b := rfl
theorem ix_H0 (a b : Int) : idxD (dH a b) (.int 0) = some (.int a) := rfl
theorem ix_H1 (a b : Int) : idxD (dH a b) (.int 1) = some (.int b) := rfl
def pwB : List (List Int) → Bool
  | [] => true
  | u :: r => r.all (fun v => ltW u v) && pwB r
theorem pwB_ok : ∀ {l : List (List Int)}, pwB l = true → l.Pairwise fun u v => ltW u v = true
  | [], _ => .nil
  | u :: r, h => by
    obtain ⟨h1, h2⟩ := Bool.and_eq_true_iff.mp h
    exact .cons (fun v hv => List.all_eq_true.mp h1 v hv) (pwB_ok h2)
theorem asc_w : ∀ q ∈ hs, (wOf q.1 q.2).Pairwise fun u v => ltW u v = true := by
  have h : (hs.all fun q => pwB (wOf q.1 q.2)) = true := by decide +kernel
  intro q hq
  exact pwB_ok (List.all_eq_true.mp h q hq)
theorem three_sh {i : Int} (h : i.natAbs ≤ 4) : shd (3 * (1921 + 2) + 3) (.lst [.int i, .int i, .int i]) ∧ (D.lst [.int i, .int i, .int i]).ok = true := by
  have hl : i.natAbs.log2 < 1920 := by
    have : i.natAbs.log2 ≤ 4 := Nat.le_trans (Nat.log2_le_self _) h
    omega
  refine ⟨shd_lst (fun x hx => ?_) (Nat.le_refl 3), (okd_lst (k := 1) fun x hx => ?_).ok (by decide)⟩
  · simp only [List.mem_cons, List.not_mem_nil, or_false, or_self] at hx
    subst hx
    exact shd_int hl
  · simp only [List.mem_cons, List.not_mem_nil, or_false, or_self] at hx
    subst hx
    exact okd_int
theorem small_w {a b : Int} (hq : (a, b) ∈ hs) {w : List Int} (hw : w ∈ wOf a b) : shd (4 * (1921 + 2) + 3) (dW w) := by
  have h := isW_of hq hw
  have okh := all_okH _ hq
  refine shd_dW (fun x hx => ?_) (h.len okh)
  have := h.2 x hx
  obtain ⟨_, _, _, k4⟩ := okh
  have e : x.natAbs ≤ 3 := by omega
  have : x.natAbs.log2 ≤ 3 := Nat.le_trans (Nat.log2_le_self _) e
  omega
theorem getD_int (l : List Int) (i : Nat) (h : i < l.length) : atI (l.map D.int) (i : Int) = some (.int (l.getD i 0)) := atI_nat (by
  rw [List.getElem?_map, List.getElem?_eq_getElem h]
  simp [List.getD_eq_getElem?_getD, List.getElem?_eq_getElem h])
theorem in_ints (x : Int) (l : List Int) : cmpD .In (.int x) (.lst (l.map .int)) = some (l.any fun z => z == x) := by
  have ho : ((D.int x).ok && (l.map D.int).all D.ok) = true := by
    rw [ok_int, Bool.true_and, List.all_eq_true]
    intro y hy
    obtain ⟨j, _, rfl⟩ := List.mem_map.mp hy
    exact ok_int j
  show (if ((D.int x).ok && (l.map D.int).all D.ok) = true then some ((l.map D.int).any fun z => eqD z (.int x)) else none) = _
  rw [if_pos ho, List.any_map]
  congr 1
theorem er_map {α β : Type} (f : α → β) : ∀ (l : List α) (j : Nat), (l.map f).eraseIdx j = (l.eraseIdx j).map f
  | [], _ => rfl
  | _ :: _, 0 => rfl
  | x :: l, j + 1 => by
    show f x :: (l.map f).eraseIdx j = f x :: (l.eraseIdx j).map f
    rw [er_map f l j]
def rem1 (x : Int) (l : List Int) : List Int := match l.findIdx? (fun z => z == x) with
  | some j => l.eraseIdx j
  | none => l
theorem rem_ints (x : Int) (l : List Int) (h : (l.any fun z => z == x) = true) : opRem (l.map .int) (.int x) = some ((rem1 x l).map .int) := by
  have ho : ((D.int x).ok && (l.map D.int).all D.ok) = true := by
    rw [ok_int, Bool.true_and, List.all_eq_true]
    intro y hy
    obtain ⟨j, _, rfl⟩ := List.mem_map.mp hy
    exact ok_int j
  unfold opRem rem1
  rw [if_pos ho, List.findIdx?_map]
  have e : ((fun z => eqD z (D.int x)) ∘ D.int) = fun z => z == x := by
    funext z
    show eqD (.int z) (.int x) = _
    rw [Ev.eq_int]
    rfl
  rw [e]
  cases q : l.findIdx? (fun z => z == x) with
  | none =>
    rw [List.findIdx?_eq_none_iff] at q
    obtain ⟨y, hy, hz⟩ := List.any_eq_true.mp h
    have := q y hy
    rw [hz] at this
    cases this
  | some j =>
    show some ((l.map D.int).eraseIdx j) = some ((l.eraseIdx j).map D.int)
    rw [er_map]
theorem ixN_nat {n k : Nat} (h : k < n) : ixN n (k : Int) = some k := by
  have e : atI (List.range n) (k : Int) = some k := atI_nat (by rw [List.getElem?_range h])
  unfold atI at e
  cases q : ixN n (k : Int) with
  | none =>
    rw [List.length_range, q] at e
    cases e
  | some j =>
    rw [List.length_range, q] at e
    have e : (List.range n)[j]? = some k := e
    obtain ⟨h1, h2⟩ := List.getElem?_eq_some_iff.mp e
    rw [List.getElem_range] at h2
    rw [h2]
theorem rangeD_get {n i : Nat} {d : D} (h : (rangeD 0 n)[i]? = some d) : i < n ∧ d = .int (i : Nat) := by
  unfold rangeD at h
  rw [List.getElem?_map] at h
  cases e : (List.range n)[i]? with
  | none => rw [e] at h; cases h
  | some k =>
    rw [e] at h
    cases h
    obtain ⟨h1, h2⟩ := List.getElem?_eq_some_iff.mp e
    rw [List.getElem_range] at h2
    rw [List.length_range] at h1
    subst h2
    exact ⟨h1, by show D.int (0 + (i : Int)) = _; rw [Int.zero_add]⟩
abbrev vN (y : Sl) : Prop := y = .no ∨ ∃ d, y = .val d
theorem sq_nx {c : CT} {s : IS} {r : List IS} {ρ ρ' : Ev.Env} (h : evS c s ρ = M.pure (.nx ρ')) : evSs c (s :: r) ρ = evSs c r ρ' := by
  show (evS c s ρ).bind _ = _
  rw [h]
  rfl
theorem for_nx {c : CT} {t : IT} {it : II} {b : List IS} {ρ ρ' : Ev.Env} {ds : List D} (h1 : evI c it ρ = M.pure ds) (h2 : loopF t (fun r => evSs c b r) ds ρ = M.pure (.nx ρ')) : evS c (.for_ t it b) ρ = M.pure (.nx ρ') := by
  show (evI c it ρ).bind (fun ds => loopF t (fun r => evSs c b r) ds ρ) = _
  rw [h1, pb, h2]
theorem runF_of {f : Ev.Env → M Fl} {n : Nat} {ds : List D} {ρ : Ev.Env} {d : D} (h : ds.map .val ++ List.replicate (n - ds.length) .no = ρ) (e : f ρ = M.pure (.rt d)) : runF f n ds = M.pure d := by
  unfold runF
  rw [h, e]
  rfl
theorem sq_ne {c : CT} {s : IS} {r : List IS} {ρ ρ' : Ev.Env} {A A' : AH} (h : evS c s ρ A = .ok (.nx ρ') A') : evSs c (s :: r) ρ A = evSs c r ρ' A' := by
  show ((evS c s ρ).bind _) A = _
  rw [bnd h]
theorem runF_at {f : Ev.Env → M Fl} {n : Nat} {ds : List D} {ρ : Ev.Env} {d : D} {A A' : AH} (h : ds.map .val ++ List.replicate (n - ds.length) .no = ρ) (e : f ρ A = .ok (.rt d) A') : runF f n ds A = .ok d A' := by
  unfold runF
  rw [h, bnd e]
  rfl
theorem mul2 (d : D) : mulD (.lst [d]) (.int 2) = some (.lst [d, d]) := by
  show (if (decide (0 ≤ (2 : Int)) && decide ((2 : Int) < 2 ^ 62) && decide ([d].length * (2 : Int).toNat ≤ sizeLine)) = true then some (D.lst (List.replicate (2 : Int).toNat [d]).flatten) else none) = _
  exact if_pos (show (decide (0 ≤ (2 : Int)) && decide ((2 : Int) < 2 ^ 62) && decide (1 * 2 ≤ sizeLine)) = true by decide)
theorem shd_two {k : Nat} {d : D} (h : shd k d) : shd (2 * (k + 2) + 3) (.lst [d, d]) := shd_lst (fun x hx => by
  simp only [List.mem_cons, List.not_mem_nil, or_false, or_self] at hx
  subst hx
  exact h) (Nat.le_refl 2)
theorem ok_two {k : Nat} {d : D} (h : okd k d) : okd (k + 1) (.lst [d, d]) := okd_lst fun x hx => by
  simp only [List.mem_cons, List.not_mem_nil, or_false, or_self] at hx
  subst hx
  exact h
def mn (x y : Int) : Int := if y < x then y else x
def cntB (g w : List Int) : Int := ((sortF idI g).map fun i => mn ((g.count i : Nat) : Int) ((w.count i : Nat) : Int)).sum
def rgt (g w : List Int) : Int := (w.length : Int) - ((off g w : Nat) : Int)
def fo0 (g w : List Int) : List Int := (g.zip w).map fun p => if p.1 = p.2 then 2 else 0
def lf1 (f w : List Int) : Nat → List Int
  | 0 => []
  | i + 1 => if f.getD i 0 = 0 then lf1 f w i ++ [w.getD i 0] else lf1 f w i
def st2 (g f0 l0 : List Int) : Nat → List Int × List Int
  | 0 => (f0, l0)
  | i + 1 => if (st2 g f0 l0 i).1.getD i 0 = 0 ∧ (st2 g f0 l0 i).2.any (fun z => z == g.getD i 0) = true then ((st2 g f0 l0 i).1.set i 1, rem1 (g.getD i 0) (st2 g f0 l0 i).2) else st2 g f0 l0 i
def marks (g w : List Int) : List Int := (st2 g (fo0 g w) (lf1 (fo0 g w) w w.length) w.length).1
theorem chunks {α : Type} {l : List α} {p : α → Bool} {c n : Nat} (hc : 0 < c) (h : ∀ k, k < n → ((l.drop (c * k)).take c).all p = true) (hl : l.length ≤ c * n) : ∀ x ∈ l, p x = true := by
  intro x hx
  obtain ⟨i, hi⟩ := List.mem_iff_getElem?.mp hx
  have il : i < l.length := (List.getElem?_eq_some_iff.mp hi).1
  have hk : i / c < n := Nat.div_lt_of_lt_mul (by omega)
  refine List.all_eq_true.mp (h (i / c) hk) x (List.mem_of_getElem? (i := i % c) ?_)
  rw [List.getElem?_take, if_pos (Nat.mod_lt _ hc), List.getElem?_drop, Nat.div_add_mod]
  exact hi
theorem lf1_len (f w : List Int) : ∀ i, (lf1 f w i).length ≤ i
  | 0 => Nat.le_refl _
  | i + 1 => by
    unfold lf1
    have := lf1_len f w i
    split
    · rw [List.length_append]
      show _ + 1 ≤ _
      omega
    · omega
theorem st2_len (g f0 l0 : List Int) : ∀ i, (st2 g f0 l0 i).1.length = f0.length
  | 0 => rfl
  | i + 1 => by
    have := st2_len g f0 l0 i
    unfold st2
    split
    · rw [List.length_set]
      exact this
    · exact this
theorem fo0_len {g w : List Int} (h : g.length = w.length) : (fo0 g w).length = w.length := by
  unfold fo0
  rw [List.length_map, List.length_zip]
  omega
/-- the marks, as the program goes -/
def mkF (g w : List Int) : List Int := ((w.zip g).filter fun p => !decide (p.1 = p.2)).map (·.1)
def mkP : List (Int × Int) → List Int → List Int
  | [], _ => []
  | p :: r, f => if p.1 = p.2 then 2 :: mkP r f else if f.any (fun z => z == p.2) then 1 :: mkP r (rem1 p.2 f) else 0 :: mkP r f
def marksP (g w : List Int) : List Int := mkP (w.zip g) (mkF g w)
/-- .. as k40 goes -/
def rtL (g w : List Int) : List Bool := (g.zip w).map fun p => decide (p.1 = p.2)
def unL (g w : List Int) : List Int := ((List.range' 0 w.length).filter fun k => !(rtL g w).getD k false).map fun k => w.getD k 0
def lkM (g : List Int) (rt : List Bool) : Nat → Nat → List Int → List Int
  | 0, _, _ => []
  | n + 1, i, f => (if rt.getD i false then 2 else if f.any (fun z => z == g.getD i 0) then 1 else 0) :: lkM g rt n (i + 1) (if rt.getD i false then f else if f.any (fun z => z == g.getD i 0) then rem1 (g.getD i 0) f else f)
def marksL (g w : List Int) : List Int := lkM g (rtL g w) g.length 0 (unL g w)
def mkB (a : Int) (g w : List Int) : Bool := decide (marks g w = marksP g w) && decide (marksL g w = marksP g w) && decide ((((marksP g w).count 2 : Nat) : Int) = rgt g w) && decide ((((marksP g w).count 1 : Nat) : Int) = cntB g w - rgt g w) && decide (cntB g w ≤ a) && decide (0 ≤ cntB g w - rgt g w) && decide (0 ≤ rgt g w) && ((marksP g w).all fun x => decide (0 ≤ x) && decide (x ≤ 2)) && decide ((((marksP g w).length : Nat) : Int) = a)
/-! ### words by answer -/
def rS : Nat → Str
  | 0 => "marks"
  | 1 => "counts"
  | _ => "rights"
theorem rule_eq (k : Nat) : cmpD .Eq (.str (rS k)) (.str "marks") = some (decide (k = 0)) ∧ cmpD .Eq (.str (rS k)) (.str "counts") = some (decide (k = 1)) ∧ cmpD .Eq (.str (rS k)) (.str "rights") = some (decide (2 ≤ k)) := by
  match k with
  | 0 => exact ⟨by kernel_rfl, by kernel_rfl, by kernel_rfl⟩
  | 1 => exact ⟨by kernel_rfl, by kernel_rfl, by kernel_rfl⟩
  | k + 2 =>
    refine ⟨?_, ?_, ?_⟩
    · rw [decide_eq_false (show ¬ k + 2 = 0 by omega)]
      show cmpD .Eq (.str "rights") (.str "marks") = some false
      kernel_rfl
    · rw [decide_eq_false (show ¬ k + 2 = 1 by omega)]
      show cmpD .Eq (.str "rights") (.str "counts") = some false
      kernel_rfl
    · rw [decide_eq_true (show 2 ≤ k + 2 by omega)]
      show cmpD .Eq (.str "rights") (.str "rights") = some true
      kernel_rfl
def ansD (k : Nat) (g w : List Int) : D := match k with
  | 0 => dW (marksP g w)
  | 1 => dH (rgt g w) (cntB g w - rgt g w)
  | _ => .int (rgt g w)
theorem nk_ints : ∀ l : List Int, D.nks (l.map .int) = l.map .num
  | [] => rfl
  | x :: l => by
    show NestedKey.num x :: D.nks (l.map .int) = .num x :: l.map .num
    rw [nk_ints l]
theorem isK_ints : ∀ l : List Int, D.isKs (l.map .int) = true
  | [] => rfl
  | x :: l => by
    show (true && D.isKs (l.map .int)) = true
    rw [isK_ints l]
    rfl
theorem dp_ints : ∀ l : List Int, NestedKey.depthAll (l.map .num) = 0
  | [] => rfl
  | x :: l => by
    show max 0 (NestedKey.depthAll (l.map .num)) = 0
    rw [dp_ints l]
    rfl
theorem key_dW (l : List Int) : (dW l).key = true := by
  unfold D.key
  have h1 : (dW l).isK = true := isK_ints l
  have h2 : (dW l).nk.depth = NestedKey.depthAll (l.map .num) + 1 := by
    show (NestedKey.tup (D.nks (l.map .int))).depth = _
    rw [nk_ints]
    rfl
  rw [h1, h2, dp_ints]
  rfl
theorem key_int (i : Int) : (D.int i).key = true := rfl
theorem ans_key (k : Nat) (g w : List Int) : (ansD k g w).key = true ∧ (ansD k g w).isT = decide (k < 2) := by
  match k with
  | 0 => exact ⟨key_dW _, rfl⟩
  | 1 => exact ⟨key_dW [_, _], rfl⟩
  | k + 2 => exact ⟨rfl, by rw [decide_eq_false (show ¬ k + 2 < 2 by omega)]; rfl⟩
theorem same_iff {a b : D} : D.same a b = true ↔ a.nk = b.nk := ⟨fun h => NestedKey.eq_of_beq _ _ h, fun h => by unfold D.same; rw [h]; exact NestedKey.beq_self _⟩
abbrev Gr (α : Type) := List (D × List α)
section
variable {α : Type} {k : D} {w : α} {f : List α → D} {key : α → D} {bb : Bool}
def lkG (k : D) : Gr α → Option (List α)
  | [] => none
  | (a, l) :: r => if D.same a k then some l else lkG k r
def addG (k : D) (w : α) : Gr α → Gr α
  | [] => [(k, [w])]
  | (a, l) :: r => if D.same a k then (a, l ++ [w]) :: r else (a, l) :: addG k w r
def grp (key : α → D) : List α → Gr α → Gr α
  | [], acc => acc
  | w :: ws, acc => grp key ws (addG (key w) w acc)
def grD (f : List α → D) (acc : Gr α) : List (D × D) := acc.map fun p => (p.1, f p.2)
theorem find_grD : ∀ {acc : Gr α}, findK k (grD f acc) = (lkG k acc).map f
  | [] => rfl
  | (a, l) :: r => by
    show (if D.same a k then some (f l) else findK k (grD f r)) = (if D.same a k then some l else lkG k r).map f
    rw [find_grD]
    split <;> rfl
theorem put_grD : ∀ {acc : Gr α}, putK k (f ((lkG k acc).getD [] ++ [w])) (grD f acc) = grD f (addG k w acc)
  | [] => rfl
  | (a, l) :: r => by
    show putK k (f ((if D.same a k then some l else lkG k r).getD [] ++ [w])) ((a, f l) :: grD f r) = grD f (if D.same a k then (a, l ++ [w]) :: r else (a, l) :: addG k w r)
    unfold putK
    by_cases h : D.same a k = true
    · rw [if_pos h, if_pos h, if_pos h]
      rfl
    · rw [if_neg h, if_neg h, if_neg h]
      rw [put_grD]
      rfl
theorem addG_mem : ∀ {acc : Gr α} {p : D × List α}, p ∈ addG k w acc → (p.1 = k ∨ ∃ q ∈ acc, q.1 = p.1) ∧ (∀ v ∈ p.2, v = w ∨ ∃ q ∈ acc, v ∈ q.2) ∧ ((∀ q ∈ acc, q.2 ≠ []) → p.2 ≠ [])
  | [], p, h => by
    have h : p ∈ [(k, [w])] := h
    rw [List.mem_singleton] at h
    subst h
    exact ⟨.inl rfl, fun v hv => .inl (by simpa using hv), fun _ => by simp⟩
  | (a, l) :: r, p, h => by
    have h : p ∈ (if D.same a k then (a, l ++ [w]) :: r else (a, l) :: addG k w r) := h
    split at h
    · rcases List.mem_cons.mp h with rfl | h
      · exact ⟨.inr ⟨_, List.mem_cons_self, rfl⟩, fun v hv => by
          rcases List.mem_append.mp hv with hv | hv
          · exact .inr ⟨_, List.mem_cons_self, hv⟩
          · exact .inl (by simpa using hv), fun _ => by simp⟩
      · exact ⟨.inr ⟨p, List.mem_cons_of_mem _ h, rfl⟩, fun v hv => .inr ⟨p, List.mem_cons_of_mem _ h, hv⟩, fun ne => ne p (List.mem_cons_of_mem _ h)⟩
    · rcases List.mem_cons.mp h with rfl | h
      · exact ⟨.inr ⟨_, List.mem_cons_self, rfl⟩, fun v hv => .inr ⟨_, List.mem_cons_self, hv⟩, fun ne => ne _ List.mem_cons_self⟩
      · obtain ⟨h1, h2, h3⟩ := addG_mem h
        refine ⟨?_, fun v hv => ?_, fun ne => h3 fun q hq => ne q (List.mem_cons_of_mem _ hq)⟩
        · rcases h1 with h1 | ⟨q, hq, e⟩
          · exact .inl h1
          · exact .inr ⟨q, List.mem_cons_of_mem _ hq, e⟩
        · rcases h2 v hv with e | ⟨q, hq, e⟩
          · exact .inl e
          · exact .inr ⟨q, List.mem_cons_of_mem _ hq, e⟩
theorem addG_len : ∀ {acc : Gr α}, (addG k w acc).length ≤ acc.length + 1
  | [] => Nat.le_refl _
  | (a, l) :: r => by
    show (if D.same a k then (a, l ++ [w]) :: r else (a, l) :: addG k w r).length ≤ _
    split
    · simp
    · have := addG_len (acc := r)
      simp only [List.length_cons]
      omega
theorem addG_nd : ∀ {acc : Gr α}, (acc.map fun p => p.1.nk).Nodup → ((addG k w acc).map fun p => p.1.nk).Nodup
  | [], _ => by show ([k.nk] : List NestedKey).Nodup; simp
  | (a, l) :: r, h => by
    have h0 : (a.nk :: r.map fun p => p.1.nk).Nodup := h
    obtain ⟨h1, h2⟩ := List.nodup_cons.mp h0
    show ((if D.same a k then (a, l ++ [w]) :: r else (a, l) :: addG k w r).map fun p => p.1.nk).Nodup
    by_cases q : D.same a k = true
    · rw [if_pos q]
      exact h
    · rw [if_neg q]
      show (a.nk :: (addG k w r).map fun p => p.1.nk).Nodup
      refine List.nodup_cons.mpr ⟨fun hm => ?_, addG_nd h2⟩
      obtain ⟨p, hp, e⟩ := List.mem_map.mp hm
      rcases (addG_mem hp).1 with e2 | ⟨q', hq', e2⟩
      · rw [e2] at e
        exact q (same_iff.mpr e.symm)
      · refine h1 (List.mem_map.mpr ⟨q', hq', ?_⟩)
        rw [e2]
        exact e
theorem addG_lk : ∀ {acc : Gr α}, lkG k (addG k w acc) = some ((lkG k acc).getD [] ++ [w])
  | [] => by
    show (if D.same k k then some [w] else none) = _
    rw [if_pos (same_iff.mpr rfl)]
    rfl
  | (a, l) :: r => by
    show lkG k (if D.same a k then (a, l ++ [w]) :: r else (a, l) :: addG k w r) = some ((if D.same a k then some l else lkG k r).getD [] ++ [w])
    by_cases q : D.same a k = true
    · rw [if_pos q, if_pos q]
      show (if D.same a k then some (l ++ [w]) else _) = _
      rw [if_pos q]
      rfl
    · rw [if_neg q, if_neg q]
      show (if D.same a k then some l else lkG k (addG k w r)) = _
      rw [if_neg q]
      exact addG_lk
theorem lkG_of : ∀ {acc : Gr α}, (acc.map fun p => p.1.nk).Nodup → ∀ p ∈ acc, lkG p.1 acc = some p.2
  | [], _, p, hp => by cases hp
  | (a, l) :: r, h, p, hp => by
    have h0 : (a.nk :: r.map fun p => p.1.nk).Nodup := h
    obtain ⟨h1, h2⟩ := List.nodup_cons.mp h0
    show (if D.same a p.1 then some l else lkG p.1 r) = some p.2
    rcases List.mem_cons.mp hp with rfl | hp
    · rw [if_pos (same_iff.mpr rfl)]
    · have : ¬ D.same a p.1 = true := fun q => h1 (List.mem_map.mpr ⟨p, hp, (same_iff.mp q).symm⟩)
      rw [if_neg this]
      exact lkG_of h2 p hp
/-- what all the groups are -/
structure GrOk (key : α → D) (bb : Bool) (ws : List α) (acc : Gr α) : Prop where
  ky : ∀ p ∈ acc, ∃ w ∈ ws, p.1 = key w
  kb : ∀ p ∈ acc, p.1.key = true ∧ p.1.isT = bb
  mem : ∀ p ∈ acc, ∀ v ∈ p.2, v ∈ ws
  ne : ∀ p ∈ acc, p.2 ≠ []
  nd : (acc.map fun p => p.1.nk).Nodup
  len : acc.length ≤ ws.length
  all : ∀ w ∈ ws, (lkG (key w) acc).isSome = true
theorem GrOk.nil : GrOk key bb [] ([] : Gr α) := ⟨(fun _ h => by cases h), (fun _ h => by cases h), (fun _ h => by cases h), (fun _ h => by cases h), List.nodup_nil, Nat.le_refl _, (fun _ h => by cases h)⟩
theorem lk_addG {k' : D} : ∀ {acc : Gr α}, (lkG k' acc).isSome = true → (lkG k' (addG k w acc)).isSome = true
  | [], h => by cases h
  | (a, l) :: r, h => by
    have h : (if D.same a k' then some l else lkG k' r).isSome = true := h
    show (lkG k' (if D.same a k then (a, l ++ [w]) :: r else (a, l) :: addG k w r)).isSome = true
    by_cases q : D.same a k = true
    · rw [if_pos q]
      show (if D.same a k' then some (l ++ [w]) else lkG k' r).isSome = true
      by_cases q' : D.same a k' = true
      · rw [if_pos q']
        rfl
      · rw [if_neg q'] at h ⊢
        exact h
    · rw [if_neg q]
      show (if D.same a k' then some l else lkG k' (addG k w r)).isSome = true
      by_cases q' : D.same a k' = true
      · rw [if_pos q']
        rfl
      · rw [if_neg q'] at h ⊢
        exact lk_addG h
theorem GrOk.add {ws : List α} {acc : Gr α} (h : GrOk key bb ws acc) (hk : (key w).key = true ∧ (key w).isT = bb) : GrOk key bb (ws ++ [w]) (addG (key w) w acc) where
  ky := fun p hp => by
    rcases (addG_mem hp).1 with e | ⟨q, hq, e⟩
    · exact ⟨w, by simp, e⟩
    · obtain ⟨v, hv, e2⟩ := h.ky q hq
      exact ⟨v, List.mem_append_left _ hv, by rw [← e, e2]⟩
  kb := fun p hp => by
    rcases (addG_mem hp).1 with e | ⟨q, hq, e⟩
    · rw [e]; exact hk
    · rw [← e]; exact h.kb q hq
  mem := fun p hp v hv => by
    rcases (addG_mem hp).2.1 v hv with e | ⟨q, hq, e⟩
    · rw [e]; simp
    · exact List.mem_append_left _ (h.mem q hq v e)
  ne := fun p hp => (addG_mem hp).2.2 h.ne
  nd := addG_nd h.nd
  len := by
    have := addG_len (k := key w) (w := w) (acc := acc)
    have := h.len
    rw [List.length_append]
    simp only [List.length_cons, List.length_nil]
    omega
  all := fun v hv => by
    rcases List.mem_append.mp hv with hv | hv
    · exact lk_addG (h.all v hv)
    · rw [List.mem_singleton] at hv
      subst hv
      rw [addG_lk]
      rfl
theorem grp_ok : ∀ {ws done : List α} {acc : Gr α}, GrOk key bb done acc → (∀ w ∈ ws, (key w).key = true ∧ (key w).isT = bb) → GrOk key bb (done ++ ws) (grp key ws acc)
  | [], done, acc, h, _ => by rw [List.append_nil]; exact h
  | w :: ws, done, acc, h, hk => by
    have := grp_ok (ws := ws) (h.add (hk w List.mem_cons_self)) fun v hv => hk v (List.mem_cons_of_mem _ hv)
    rw [List.append_assoc] at this
    exact this
theorem grp_all {ws : List α} (hk : ∀ w ∈ ws, (key w).key = true ∧ (key w).isT = bb) : GrOk key bb ws (grp key ws []) := grp_ok (done := []) GrOk.nil hk
theorem GrOk.okK {ws : List α} {acc : Gr α} (h : GrOk key bb ws acc) {k : D} (hk : k.key = true ∧ k.isT = bb) : okK k (grD f acc) = true := by
  unfold Ev.okK
  rw [hk.1, Bool.true_and, List.all_eq_true]
  intro p hp
  obtain ⟨q, hq, rfl⟩ := List.mem_map.mp hp
  show (q.1.isT == k.isT) = true
  rw [(h.kb q hq).2, hk.2]
  exact beq_self_eq_true _
theorem grD_len {acc : Gr α} : (grD f acc).length = acc.length := List.length_map _
end
end Ev
end
section
set_option maxHeartbeats 4000000
namespace Ev
open PySem PySem.Spec PyProof.Rows L2
/-! ### loops by what holds; dicts by groups -/
section
variable {t : IT} {g : Env → M Fl} {α : Type} {inj : α → D}
theorem loop_inv (I : List α → Env → Prop) : ∀ (l done : List α) (ρ : Env), (∀ d x r ρ, done ++ l = d ++ x :: r → I d ρ → ∃ ρ', ((ofO (evTp t (inj x) ρ)).bind g) = M.pure (.nx ρ') ∧ I (d ++ [x]) ρ') → I done ρ → ∃ ρ', loopF t g (l.map inj) ρ = M.pure (.nx ρ') ∧ I (done ++ l) ρ'
  | [], done, ρ, _, h => ⟨ρ, rfl, by rw [List.append_nil]; exact h⟩
  | x :: l, done, ρ, st, h => by
    obtain ⟨ρ1, e1, h1⟩ := st done x l ρ rfl h
    obtain ⟨ρ', e, h'⟩ := loop_inv I l (done ++ [x]) ρ1 (fun d y r ρ e => st d y r ρ (by rw [← e, List.append_assoc]; rfl)) h1
    refine ⟨ρ', ?_, by rw [List.append_assoc] at h'; exact h'⟩
    rw [List.map_cons, loop_cons, e1, pb]
    exact e
theorem loop_invA (I : List α → Env → AH → Prop) : ∀ (l done : List α) (ρ : Env) (A : AH), (∀ d x r ρ A, done ++ l = d ++ x :: r → I d ρ A → ∃ ρ' A', ((ofO (evTp t (inj x) ρ)).bind g) A = .ok (.nx ρ') A' ∧ I (d ++ [x]) ρ' A') → I done ρ A → ∃ ρ' A', loopF t g (l.map inj) ρ A = .ok (.nx ρ') A' ∧ I (done ++ l) ρ' A'
  | [], done, ρ, A, _, h => ⟨ρ, A, rfl, by rw [List.append_nil]; exact h⟩
  | x :: l, done, ρ, A, st, h => by
    obtain ⟨ρ1, A1, e1, h1⟩ := st done x l ρ A rfl h
    obtain ⟨ρ', A', e, h'⟩ := loop_invA I l (done ++ [x]) ρ1 A1 (fun d y r ρ A e => st d y r ρ A (by rw [← e, List.append_assoc]; rfl)) h1
    refine ⟨ρ', A', ?_, by rw [List.append_assoc] at h'; exact h'⟩
    rw [List.map_cons, loop_cons, bnd e1]
    exact e
end
theorem snoc_ind {α : Type} {P : List α → Prop} (h0 : P []) (h1 : ∀ l x, P l → P (l ++ [x])) (l : List α) : P l := by
  rw [← List.reverse_reverse l]
  induction l.reverse with
  | nil => exact h0
  | cons x r ih =>
    rw [List.reverse_cons]
    exact h1 _ _ ih
theorem for_ne {c : CT} {t : IT} {it : II} {b : List IS} {ρ ρ' : Ev.Env} {ds : List D} {A A1 A' : AH} (h1 : evI c it ρ A = .ok ds A1) (h2 : loopF t (fun r => evSs c b r) ds ρ A1 = .ok (.nx ρ') A') : evS c (.for_ t it b) ρ A = .ok (.nx ρ') A' := by
  show ((evI c it ρ).bind (fun ds => loopF t (fun r => evSs c b r) ds ρ)) A = _
  rw [bnd h1, h2]
theorem blt1 {c : CT} {X : IE} {ρ : Env} {d r : D} {f : BF} (hs : isStar X = false) (h : evE c X ρ = M.pure d) (hd : ∀ A, deref A d = d) (hr : bltD f [d] = some r) : evE c (.blt f [X]) ρ = M.pure r := by
  show (evEs c [X] ρ).bind (fun xs => fun A => ofO (bltD f (xs.map (deref A))) A) = _
  rw [evEs_cons hs]
  show (((evE c X ρ).bind fun x => (evEs c [] ρ).bind fun t => M.pure (x :: t)).bind _) = _
  rw [h]
  funext A
  show ofO (bltD f [deref A d]) A = _
  rw [hd, hr]
  rfl
theorem asg_pure {t : D → Env → M Env} {f : Env → M D} {ρ ρ' : Env} {d : D} (h1 : f ρ = M.pure d) (h2 : t d ρ = M.pure ρ') : evAsg t f ρ = M.pure (.nx ρ') := by
  unfold evAsg
  rw [h1, pb, h2]
  rfl
theorem asg_at {t : D → Env → M Env} {f : Env → M D} {ρ ρ' : Env} {d : D} {A A1 A2 : AH} (h1 : f ρ A = .ok d A1) (h2 : t d ρ A1 = .ok ρ' A2) : evAsg t f ρ A = .ok (.nx ρ') A2 := by
  unfold evAsg
  rw [bnd h1, bnd (calm_at h2)]
  rfl
theorem subD_pure {i : Nat} {f : Env → M D} {ρ : Env} {l : List (D × D)} {k d : D} (h : ρ[i]? = some (.ownD l)) (hk : f ρ = M.pure k) (ok : okK k l = true) (hz : l.length < sizeLine) : evQ (.sub i f) d ρ = M.pure (ρ.set i (.ownD (putK k d l))) := by
  funext A
  have h1 : okSub ρ i = true := by unfold okSub; rw [h]
  have h2 : setSub ρ A i k d = some (ρ.set i (.ownD (putK k d l)), A) := by
    unfold setSub
    rw [h]
    show (if (okK k l && decide (l.length < sizeLine)) = true then some (ρ.set i (.ownD (putK k d l)), A) else none) = _
    rw [if_pos (by rw [ok, decide_eq_true hz]; rfl)]
  show ((grd (okSub ρ i)).bind fun _ => (calm (f ρ)).bind fun k => fun A => match setSub ρ A i k d with
    | some (ρ', A') => .ok ρ' A'
    | none => .stuck) A = _
  rw [h1, grdT, pb, hk]
  show (match setSub ρ A i k d with
    | some (ρ', A') => R.ok ρ' A'
    | none => .stuck) = _
  rw [h2]
  rfl
theorem ty_dct {f : MF} (l : List (D × D)) (h : "dict" ∈ mTys f) : tyAt (mTys f) (.dct l) = M.pure "dict" := by
  funext A
  show (if "dict" ∈ mTys f then R.ok "dict" A else .stuck) = _
  rw [if_pos h]
  rfl
theorem ty_g2 (l : List (D × D)) : tyAt (mTys .get2) (.dct l) = M.pure "dict" := ty_dct l (by decide)
theorem drf_dct (A : AH) (l : List (D × D)) : deref A (.dct l) = .dct l := rfl
theorem mt_g2 {l : List (D × D)} {k d : D} (ok : okK k l = true) : mthT mGet2 "dict" (.dct l) [k, d] = some ((findK k l).getD d) := by
  show (if okK k l then some ((findK k l).getD d) else none) = _
  rw [if_pos ok]
theorem ix_dk {l : List (D × D)} {k d : D} (ok : okK k l = true) (h : findK k l = some d) : idxD (.dct l) k = some d := by
  have e : idxD (.dct l) k = if okK k l then findK k l else none := by cases k <;> rfl
  rw [e, if_pos ok, h]
theorem in_dct {l : List (D × D)} {k : D} (ok : okK k l = true) : cmpD .In k (.dct l) = some (findK k l).isSome := by
  show (if okK k l then some (findK k l).isSome else none) = _
  rw [if_pos ok]
section
variable {α : Type} {key : α → D} {bb : Bool} {f : List α → D}
theorem grp_snoc : ∀ (ws : List α) (w : α) (acc : Gr α), grp key (ws ++ [w]) acc = addG (key w) w (grp key ws acc)
  | [], _, _ => rfl
  | v :: ws, w, acc => grp_snoc ws w (addG (key v) v acc)
theorem addG_pl {k : D} {w : α} {B : Nat} : ∀ {acc : Gr α}, (∀ q ∈ acc, q.2.length ≤ B) → ∀ p ∈ addG k w acc, p.2.length ≤ B + 1
  | [], _, p, hp => by
    have hp : p ∈ [(k, [w])] := hp
    rw [List.mem_singleton] at hp
    subst hp
    simp
  | (a, l) :: r, h, p, hp => by
    have hp : p ∈ (if D.same a k then (a, l ++ [w]) :: r else (a, l) :: addG k w r) := hp
    have hl : l.length ≤ B := h (a, l) List.mem_cons_self
    split at hp
    · rcases List.mem_cons.mp hp with rfl | hp
      · rw [List.length_append]
        simp only [List.length_cons, List.length_nil]
        omega
      · exact Nat.le_succ_of_le (h p (List.mem_cons_of_mem _ hp))
    · rcases List.mem_cons.mp hp with rfl | hp
      · exact Nat.le_succ_of_le hl
      · exact addG_pl (fun q hq => h q (List.mem_cons_of_mem _ hq)) p hp
theorem grp_pl : ∀ (ws : List α) (acc : Gr α) (B : Nat), (∀ q ∈ acc, q.2.length ≤ B) → ∀ p ∈ grp key ws acc, p.2.length ≤ B + ws.length
  | [], acc, B, h, p, hp => h p hp
  | w :: ws, acc, B, h, p, hp => by
    have := grp_pl ws (addG (key w) w acc) (B + 1) (addG_pl h) p hp
    rw [List.length_cons]
    omega
theorem grp_pl0 (ws : List α) : ∀ p ∈ grp key ws [], p.2.length ≤ ws.length := fun p hp => by
  have := grp_pl ws [] 0 (fun q hq => by cases hq) p hp
  omega
theorem lkG_pl {acc : Gr α} {k : D} {B : Nat} (h : ∀ q ∈ acc, q.2.length ≤ B) : ((lkG k acc).getD []).length ≤ B := by
  induction acc with
  | nil => exact Nat.zero_le _
  | cons q r ih =>
    obtain ⟨a, l⟩ := q
    show ((if D.same a k then some l else lkG k r).getD []).length ≤ B
    split
    · exact h (a, l) List.mem_cons_self
    · exact ih fun q hq => h q (List.mem_cons_of_mem _ hq)
theorem grp_ne : ∀ (ws : List α) (acc : Gr α), (ws ≠ [] ∨ acc ≠ []) → grp key ws acc ≠ []
  | [], acc, h => by
    rcases h with h | h
    · exact absurd rfl h
    · exact h
  | w :: ws, acc, _ => grp_ne ws _ (.inr (by
    cases acc with
    | nil => exact List.cons_ne_nil _ _
    | cons q r =>
      obtain ⟨a, l⟩ := q
      show (if D.same a (key w) then (a, l ++ [w]) :: r else (a, l) :: addG (key w) w r) ≠ []
      split <;> exact List.cons_ne_nil _ _))
theorem foldmax_mem : ∀ (l : List Int) (n : Int), l.foldl max n = n ∨ l.foldl max n ∈ l
  | [], n => .inl rfl
  | x :: l, n => by
    show l.foldl max (max n x) = n ∨ l.foldl max (max n x) ∈ x :: l
    rcases foldmax_mem l (max n x) with h | h
    · rw [h]
      rcases Int.le_total n x with q | q
      · rw [Int.max_eq_right q]; exact .inr List.mem_cons_self
      · rw [Int.max_eq_left q]; exact .inl rfl
    · exact .inr (List.mem_cons_of_mem _ h)
theorem foldmin_mem : ∀ (l : List Int) (n : Int), l.foldl min n = n ∨ l.foldl min n ∈ l
  | [], n => .inl rfl
  | x :: l, n => by
    show l.foldl min (min n x) = n ∨ l.foldl min (min n x) ∈ x :: l
    rcases foldmin_mem l (min n x) with h | h
    · rw [h]
      rcases Int.le_total n x with q | q
      · rw [Int.min_eq_left q]; exact .inl rfl
      · rw [Int.min_eq_right q]; exact .inr List.mem_cons_self
    · exact .inr (List.mem_cons_of_mem _ h)
theorem minL_mem : ∀ (l : List D) (x : D), minL x l = x ∨ minL x l ∈ l
  | [], x => .inl rfl
  | y :: l, x => by
    show minL (if ltD y x then y else x) l = x ∨ minL (if ltD y x then y else x) l ∈ y :: l
    rcases minL_mem l (if ltD y x then y else x) with h | h
    · rw [h]
      split
      · exact .inr List.mem_cons_self
      · exact .inl rfl
    · exact .inr (List.mem_cons_of_mem _ h)
/-- least of words, or of numbers -/
theorem min_some {l : List D} (hl : l ≠ []) (h : (∀ d ∈ l, ∃ i, d = .int i) ∨ ∀ d ∈ l, ∃ w, d = dW w) : ∃ d ∈ l, bMinA [.lst l] = some d := by
  rcases h with h | h
  · obtain ⟨ns, rfl⟩ : ∃ ns : List Int, l = ns.map .int := by
      clear hl
      induction l with
      | nil => exact ⟨[], rfl⟩
      | cons d l ih =>
        obtain ⟨ns, rfl⟩ := ih fun d hd => h d (List.mem_cons_of_mem _ hd)
        obtain ⟨i, rfl⟩ := h d List.mem_cons_self
        exact ⟨i :: ns, rfl⟩
    cases ns with
    | nil => exact absurd rfl hl
    | cons n ns =>
      refine ⟨_, ?_, min_ints n ns⟩
      rcases foldmin_mem ns n with e | e
      · rw [e]; exact List.mem_cons_self
      · exact List.mem_cons_of_mem _ (List.mem_map_of_mem e)
  · obtain ⟨ns, rfl⟩ : ∃ ns : List (List Int), l = ns.map dW := by
      clear hl
      induction l with
      | nil => exact ⟨[], rfl⟩
      | cons d l ih =>
        obtain ⟨ns, rfl⟩ := ih fun d hd => h d (List.mem_cons_of_mem _ hd)
        obtain ⟨i, rfl⟩ := h d List.mem_cons_self
        exact ⟨i :: ns, rfl⟩
    cases ns with
    | nil => exact absurd rfl hl
    | cons n ns =>
      have ha : alikes ((n :: ns).map dW) = true := by
        unfold alikes
        rw [List.all_eq_true]
        intro d hd
        obtain ⟨w, _, rfl⟩ := List.mem_map.mp hd
        rw [ok_dW, Bool.true_and, Bool.and_eq_true_iff]
        refine ⟨rfl, ?_⟩
        rw [List.all_eq_true]
        intro e he
        obtain ⟨v, _, rfl⟩ := List.mem_map.mp he
        exact alk_dW w v
      have h1 : bMin1 [.lst ((n :: ns).map dW)] = none := rfl
      refine ⟨minL (dW n) (ns.map dW), ?_, ?_⟩
      · rcases minL_mem (ns.map dW) (dW n) with e | e
        · rw [e]; exact List.mem_cons_self
        · exact List.mem_cons_of_mem _ e
      · unfold bMinA
        rw [h1]
        rw [List.map_cons] at ha
        show (if alikes (dW n :: ns.map dW) = true then some (minL (dW n) (ns.map dW)) else none) = _
        rw [if_pos ha]
def mostG (acc : Gr α) : Int := match acc with
  | [] => 0
  | p :: r => (r.map fun q => (q.2.length : Int)).foldl max (p.2.length : Int)
def keysG (acc : Gr α) : List D := (acc.filter fun p => decide ((p.2.length : Int) = mostG acc)).map (·.1)
def toldG (acc : Gr α) : D := (bMinA [.lst (keysG acc)]).getD .non
def leftG (acc : Gr α) : List α := (lkG (toldG acc) acc).getD []
theorem most_max {acc : Gr α} (h : acc ≠ []) : bMaxA [.lst (acc.map fun p => D.int (p.2.length : Int))] = some (.int (mostG acc)) := by
  cases acc with
  | nil => exact absurd rfl h
  | cons p r =>
    have := max_ints (p.2.length : Int) (r.map fun q => (q.2.length : Int))
    rw [List.map_cons, List.map_map] at this
    exact this
theorem most_mem {acc : Gr α} (h : acc ≠ []) : ∃ p ∈ acc, (p.2.length : Int) = mostG acc := by
  cases acc with
  | nil => exact absurd rfl h
  | cons p r =>
    rcases foldmax_mem (r.map fun q => (q.2.length : Int)) (p.2.length : Int) with e | e
    · exact ⟨p, List.mem_cons_self, e.symm⟩
    · obtain ⟨q, hq, e2⟩ := List.mem_map.mp e
      exact ⟨q, List.mem_cons_of_mem _ hq, e2⟩
theorem told_ok {acc : Gr α} {ws : List α} (ok : GrOk key bb ws acc) (h : acc ≠ []) (hd : (∀ w ∈ ws, ∃ i, key w = .int i) ∨ ∀ w ∈ ws, ∃ v, key w = dW v) : bMinA [.lst (keysG acc)] = some (toldG acc) ∧ ∃ p ∈ acc, toldG acc = p.1 ∧ leftG acc = p.2 ∧ lkG p.1 acc = some p.2 := by
  have hk : ∀ d ∈ keysG acc, ∃ p ∈ acc, p.1 = d := fun d hd => by
    obtain ⟨p, hp, e⟩ := List.mem_map.mp hd
    exact ⟨p, (List.mem_filter.mp hp).1, e⟩
  have hne : keysG acc ≠ [] := by
    obtain ⟨p, hp, e⟩ := most_mem h
    exact List.ne_nil_of_mem (List.mem_map_of_mem (List.mem_filter.mpr ⟨hp, decide_eq_true e⟩))
  obtain ⟨d, hd1, e⟩ := min_some hne (by
    rcases hd with hd | hd
    · refine .inl fun d hd' => ?_
      obtain ⟨p, hp, rfl⟩ := hk d hd'
      obtain ⟨w, hw, e⟩ := ok.ky p hp
      rw [e]
      exact hd w hw
    · refine .inr fun d hd' => ?_
      obtain ⟨p, hp, rfl⟩ := hk d hd'
      obtain ⟨w, hw, e⟩ := ok.ky p hp
      rw [e]
      exact hd w hw)
  have et : toldG acc = d := by unfold toldG; rw [e]; rfl
  rw [et]
  refine ⟨e, ?_⟩
  obtain ⟨p, hp, rfl⟩ := hk d hd1
  have hl := lkG_of ok.nd p hp
  refine ⟨p, hp, rfl, ?_, hl⟩
  unfold leftG
  rw [et, hl]
  rfl
end
theorem ans_kind (k : Nat) (g : List Int) (ws : List (List Int)) : (∀ w ∈ ws, ∃ i, ansD k g w = .int i) ∨ ∀ w ∈ ws, ∃ v, ansD k g w = dW v := by
  match k with
  | 0 => exact .inr fun w _ => ⟨_, rfl⟩
  | 1 => exact .inr fun w _ => ⟨[_, _], rfl⟩
  | k + 2 => exact .inl fun w _ => ⟨_, rfl⟩
abbrev tupF (l : List (List Int)) : D := .tup (l.map dW)
abbrev lstF (l : List (List Int)) : D := .lst (l.map dW)
end Ev
end
section
set_option maxHeartbeats 4000000
namespace Ev
open PySem PySem.Spec PyProof.Rows L2
theorem mk_22_0 : (((wOf 2 2).drop (16 * 0)).take 16).all (fun g => (wOf 2 2).all fun w => mkB 2 g w) = true := by decide +kernel
theorem mk_23_0 : (((wOf 2 3).drop (16 * 0)).take 16).all (fun g => (wOf 2 3).all fun w => mkB 2 g w) = true := by decide +kernel
theorem mk_32_0 : (((wOf 3 2).drop (16 * 0)).take 16).all (fun g => (wOf 3 2).all fun w => mkB 3 g w) = true := by decide +kernel
theorem mk_24_0 : (((wOf 2 4).drop (16 * 0)).take 16).all (fun g => (wOf 2 4).all fun w => mkB 2 g w) = true := by decide +kernel
theorem mk_42_0 : (((wOf 4 2).drop (16 * 0)).take 16).all (fun g => (wOf 4 2).all fun w => mkB 4 g w) = true := by decide +kernel
theorem mk_33_0 : (((wOf 3 3).drop (16 * 0)).take 16).all (fun g => (wOf 3 3).all fun w => mkB 3 g w) = true := by decide +kernel
theorem mk_33_1 : (((wOf 3 3).drop (16 * 1)).take 16).all (fun g => (wOf 3 3).all fun w => mkB 3 g w) = true := by decide +kernel
theorem mk_34_0 : (((wOf 3 4).drop (16 * 0)).take 16).all (fun g => (wOf 3 4).all fun w => mkB 3 g w) = true := by decide +kernel
theorem mk_34_1 : (((wOf 3 4).drop (16 * 1)).take 16).all (fun g => (wOf 3 4).all fun w => mkB 3 g w) = true := by decide +kernel
theorem mk_34_2 : (((wOf 3 4).drop (16 * 2)).take 16).all (fun g => (wOf 3 4).all fun w => mkB 3 g w) = true := by decide +kernel
theorem mk_34_3 : (((wOf 3 4).drop (16 * 3)).take 16).all (fun g => (wOf 3 4).all fun w => mkB 3 g w) = true := by decide +kernel
theorem mk_43_0 : (((wOf 4 3).drop (16 * 0)).take 16).all (fun g => (wOf 4 3).all fun w => mkB 4 g w) = true := by decide +kernel
theorem mk_43_1 : (((wOf 4 3).drop (16 * 1)).take 16).all (fun g => (wOf 4 3).all fun w => mkB 4 g w) = true := by decide +kernel
theorem mk_43_2 : (((wOf 4 3).drop (16 * 2)).take 16).all (fun g => (wOf 4 3).all fun w => mkB 4 g w) = true := by decide +kernel
theorem mk_43_3 : (((wOf 4 3).drop (16 * 3)).take 16).all (fun g => (wOf 4 3).all fun w => mkB 4 g w) = true := by decide +kernel
theorem mk_43_4 : (((wOf 4 3).drop (16 * 4)).take 16).all (fun g => (wOf 4 3).all fun w => mkB 4 g w) = true := by decide +kernel
theorem mk_43_5 : (((wOf 4 3).drop (16 * 5)).take 16).all (fun g => (wOf 4 3).all fun w => mkB 4 g w) = true := by decide +kernel
theorem mark_all : ∀ q ∈ hs, ∀ g ∈ wOf q.1 q.2, ∀ w ∈ wOf q.1 q.2, mkB q.1 g w = true := by
  intro q hq g hg w hw
  have key : ∀ (a b : Int) (n : Nat), (a, b) = q → (∀ k, k < n → (((wOf a b).drop (16 * k)).take 16).all (fun g => (wOf a b).all fun w => mkB a g w) = true) → (wOf a b).length ≤ 16 * n → mkB q.1 g w = true := by
    rintro a b n rfl h hl
    exact List.all_eq_true.mp (chunks (p := fun g => (wOf a b).all fun w => mkB a g w) (by decide) h hl g hg) w hw
  simp only [hs, List.mem_cons, List.not_mem_nil, or_false] at hq
  rcases hq with e | e | e | e | e | e | e | e
  · exact key 2 2 1 e.symm (fun k hk => match k, hk with | 0, _ => mk_22_0) (by decide +kernel)
  · exact key 2 3 1 e.symm (fun k hk => match k, hk with | 0, _ => mk_23_0) (by decide +kernel)
  · exact key 3 2 1 e.symm (fun k hk => match k, hk with | 0, _ => mk_32_0) (by decide +kernel)
  · exact key 2 4 1 e.symm (fun k hk => match k, hk with | 0, _ => mk_24_0) (by decide +kernel)
  · exact key 4 2 1 e.symm (fun k hk => match k, hk with | 0, _ => mk_42_0) (by decide +kernel)
  · exact key 3 3 2 e.symm (fun k hk => match k, hk with | 0, _ => mk_33_0 | 1, _ => mk_33_1) (by decide +kernel)
  · exact key 3 4 4 e.symm (fun k hk => match k, hk with | 0, _ => mk_34_0 | 1, _ => mk_34_1 | 2, _ => mk_34_2 | 3, _ => mk_34_3) (by decide +kernel)
  · exact key 4 3 6 e.symm (fun k hk => match k, hk with | 0, _ => mk_43_0 | 1, _ => mk_43_1 | 2, _ => mk_43_2 | 3, _ => mk_43_3 | 4, _ => mk_43_4 | 5, _ => mk_43_5) (by decide +kernel)
section
variable {a b : Int} (hq : (a, b) ∈ hs) {g w : List Int} (hg : g ∈ wOf a b) (hw : w ∈ wOf a b)
include hq hg hw
theorem mk_all : marks g w = marksP g w ∧ marksL g w = marksP g w ∧ (((marksP g w).count 2 : Nat) : Int) = rgt g w ∧ (((marksP g w).count 1 : Nat) : Int) = cntB g w - rgt g w ∧ cntB g w ≤ a ∧ 0 ≤ cntB g w - rgt g w ∧ 0 ≤ rgt g w ∧ (∀ x ∈ marksP g w, 0 ≤ x ∧ x ≤ 2) ∧ (((marksP g w).length : Nat) : Int) = a := by
  have h := mark_all _ hq g hg w hw
  unfold mkB at h
  simp only [Bool.and_eq_true, decide_eq_true_eq, List.all_eq_true] at h
  obtain ⟨⟨⟨⟨⟨⟨⟨⟨h1, h2⟩, h3⟩, h4⟩, h5⟩, h6⟩, h7⟩, h8⟩, h9⟩ := h
  exact ⟨h1, h2, h3, h4, h5, h6, h7, h8, h9⟩
end
end Ev
end
section
set_option maxHeartbeats 4000000
namespace Ev
open PySem PySem.Spec PyProof.Rows L2
/-! ### parts -/
theorem cmp1 {c : CT} {op : CmpOp} {x y : IE} {ρ : Env} {a b : D} {r : Bool} (h1 : evE c x ρ = M.pure a) (h2 : evE c y ρ = M.pure b) (h : cmpD op a b = some r) : evE c (.cmp op x y) ρ = M.pure (.bl r) := by
  show ((evE c x ρ).bind fun u => (evE c y ρ).bind fun v => (ofO (cmpD op u v)).bind fun k => M.pure (D.bl k)) = _
  rw [h1, pb, h2, pb, h]
  rfl
theorem bin1 {c : CT} {op : Operator} {x y : IE} {ρ : Env} {a b d : D} (h1 : evE c x ρ = M.pure a) (h2 : evE c y ρ = M.pure b) (h : binD op a b = some d) : evE c (.bin op x y) ρ = M.pure d := by
  show ((evE c x ρ).bind fun u => (evE c y ρ).bind fun v => ofO (binD op u v)) = _
  rw [h1, pb, h2, pb, h]
  rfl
theorem set1 {c : CT} {i : Nat} {x : IE} {ρ ρ' : Env} {d : D} (h1 : evE c x ρ = M.pure d) (h : setV (dropS ρ i) i d = some ρ') : evS c (.set i x) ρ = M.pure (.nx ρ') := by
  show evSet i _ _ = _
  unfold evSet
  rw [h1, pb, h]
  rfl
theorem ite1 {c : CT} {x : IE} {p q : List IS} {ρ : Env} {k : Bool} (h1 : evE c x ρ = M.pure (.bl k)) : evS c (.ite x p q) ρ = if k then evSs c p ρ else evSs c q ρ := by
  show ifF _ _ _ _ = _
  unfold ifF
  rw [h1, pb]
  cases k <;> rfl
theorem es1 {c : CT} {x : IE} {l : List IE} {ρ : Env} {d : D} {ds : List D} (hs : isStar x = false) (h1 : evE c x ρ = M.pure d) (h2 : evEs c l ρ = M.pure ds) : evEs c (x :: l) ρ = M.pure (d :: ds) := by
  rw [evEs_cons hs]
  show ((evE c x ρ).bind fun x => (evEs c l ρ).bind fun t => M.pure (x :: t)) = _
  rw [h1, pb, h2]
  rfl
theorem es0 {c : CT} {ρ : Env} : evEs c [] ρ = M.pure [] := rfl
theorem tup1 {c : CT} {l : List IE} {ρ : Env} {ds : List D} (h : evEs c l ρ = M.pure ds) (hz : ds.length ≤ sizeLine) : evE c (.tup l) ρ = M.pure (.tup ds) := by
  show ((evEs c l ρ).bind fun l => (grd (decide (l.length ≤ sizeLine))).bind fun _ => M.pure (D.tup l)) = _
  rw [h, pb, decide_eq_true hz]
  rfl
theorem lst1 {c : CT} {l : List IE} {ρ : Env} {ds : List D} (h : evEs c l ρ = M.pure ds) (hz : ds.length ≤ sizeLine) : evE c (.lst l) ρ = M.pure (.lst ds) := by
  show ((evEs c l ρ).bind fun l => (grd (decide (l.length ≤ sizeLine))).bind fun _ => M.pure (D.lst l)) = _
  rw [h, pb, decide_eq_true hz]
  rfl
/-! ### the marks as k20 .. go; small houses -/
def rest3 (f w : List Int) : List Int := ((f.zip w).filter fun p => decide (p.1 = 0)).map (·.2)
def en3 (g : List Int) : Nat → Nat → List Int → List Int → List Int
  | 0, _, f, _ => f
  | n + 1, i, f, l => if f.getD i 0 = 0 ∧ l.any (fun z => z == g.getD i 0) = true then en3 g n (i + 1) (f.set i 1) (rem1 (g.getD i 0) l) else en3 g n (i + 1) f l
def marks3 (g w : List Int) : List Int := en3 g g.length 0 (fo0 g w) (rest3 (fo0 g w) w)
def hs27 : List (Int × Int) := [(2, 2), (2, 3), (2, 4), (3, 2), (3, 3), (4, 2)]
theorem hs27_hs : ∀ q ∈ hs27, q ∈ hs := by decide
theorem m3_22 : ((wOf 2 2).all fun g => (wOf 2 2).all fun w => decide (marks3 g w = marksP g w)) = true := by decide +kernel
theorem m3_23 : ((wOf 2 3).all fun g => (wOf 2 3).all fun w => decide (marks3 g w = marksP g w)) = true := by decide +kernel
theorem m3_24 : ((wOf 2 4).all fun g => (wOf 2 4).all fun w => decide (marks3 g w = marksP g w)) = true := by decide +kernel
theorem m3_32 : ((wOf 3 2).all fun g => (wOf 3 2).all fun w => decide (marks3 g w = marksP g w)) = true := by decide +kernel
theorem m3_33 : ((wOf 3 3).all fun g => (wOf 3 3).all fun w => decide (marks3 g w = marksP g w)) = true := by decide +kernel
theorem m3_42 : ((wOf 4 2).all fun g => (wOf 4 2).all fun w => decide (marks3 g w = marksP g w)) = true := by decide +kernel
theorem m3_all {a b : Int} (hq : (a, b) ∈ hs27) {g w : List Int} (hg : g ∈ wOf a b) (hw : w ∈ wOf a b) : marks3 g w = marksP g w := by
  have key : ((wOf a b).all fun g => (wOf a b).all fun w => decide (marks3 g w = marksP g w)) = true := by
    simp only [hs27, List.mem_cons, Prod.mk.injEq, List.not_mem_nil, or_false] at hq
    rcases hq with ⟨rfl, rfl⟩ | ⟨rfl, rfl⟩ | ⟨rfl, rfl⟩ | ⟨rfl, rfl⟩ | ⟨rfl, rfl⟩ | ⟨rfl, rfl⟩
    · exact m3_22
    · exact m3_23
    · exact m3_24
    · exact m3_32
    · exact m3_33
    · exact m3_42
  exact of_decide_eq_true (List.all_eq_true.mp (List.all_eq_true.mp key g hg) w hw)
theorem enum_ints (g : List Int) : enumD (g.map D.int) = (List.range' 0 g.length).map fun (j : Nat) => .tup [.int (j : Int), .int (g.getD j 0)] := by
  unfold enumD
  apply List.ext_getElem?
  intro i
  rw [List.getElem?_map, List.getElem?_map, List.getElem?_zipIdx, List.getElem?_map]
  by_cases h : i < g.length
  · rw [List.getElem?_eq_getElem h, List.getElem?_range' h]
    simp [List.getD_eq_getElem?_getD, List.getElem?_eq_getElem h]
  · rw [List.getElem?_eq_none (by omega), List.getElem?_eq_none (by rw [List.length_range']; omega)]
    rfl
/-- letters counted: all of a word -/
def cntAll (b : Int) (w : List Int) : Int := ((List.range b.toNat).map fun (i : Nat) => ((w.count (i : Int) : Nat) : Int)).sum
theorem cnt_sum : ∀ q ∈ hs, ∀ w ∈ wOf q.1 q.2, cntAll q.2 w = q.1 := by
  have h : (hs.all fun q => (wOf q.1 q.2).all fun w => decide (cntAll q.2 w = q.1)) = true := by decide +kernel
  intro q hq w hw
  exact of_decide_eq_true (List.all_eq_true.mp (List.all_eq_true.mp h q hq) w hw)
theorem sum_mono : ∀ {α : Type} (l : List α) (f g : α → Int), (∀ x ∈ l, f x ≤ g x) → (l.map f).sum ≤ (l.map g).sum
  | _, [], _, _, _ => Int.le_refl _
  | _, x :: l, f, g, h => by
    have h1 := h x List.mem_cons_self
    have h2 := sum_mono l f g fun y hy => h y (List.mem_cons_of_mem _ hy)
    rw [List.map_cons, List.map_cons, List.sum_cons, List.sum_cons]
    omega
theorem foldmax_ge : ∀ (l : List Int) (n x : Int), x = n ∨ x ∈ l → x ≤ l.foldl max n
  | [], n, x, h => by
    rcases h with h | h
    · rw [h]; exact Int.le_refl _
    · cases h
  | y :: l, n, x, h => by
    show x ≤ l.foldl max (max n y)
    rcases h with h | h
    · have := foldmax_ge l (max n y) (max n y) (.inl rfl)
      have := Int.le_max_left n y
      omega
    · rcases List.mem_cons.mp h with h | h
      · have := foldmax_ge l (max n y) (max n y) (.inl rfl)
        have := Int.le_max_right n y
        omega
      · exact foldmax_ge l (max n y) x (.inr h)
end Ev
end
section
set_option maxHeartbeats 4000000
namespace Ev
open PySem PySem.Spec PyProof.Rows L2
/-! ### a dict that counts numbers; its items sorted -/
abbrev Cts := List (Int × Nat)
def addC (n : Int) : Cts → Cts
  | [] => [(n, 1)]
  | (a, c) :: r => if a = n then (a, c + 1) :: r else (a, c) :: addC n r
def lkC (n : Int) : Cts → Nat
  | [] => 0
  | (a, c) :: r => if a = n then c else lkC n r
def cts (l : List Int) : Cts := l.foldl (fun acc n => addC n acc) []
def cD (acc : Cts) : List (D × D) := acc.map fun p => (.int p.1, .int (p.2 : Int))
theorem same_int (a n : Int) : D.same (.int a) (.int n) = decide (a = n) := by
  by_cases h : a = n
  · subst h
    rw [decide_eq_true rfl]
    exact same_iff.mpr rfl
  · rw [decide_eq_false h]
    refine Bool.eq_false_iff.mpr fun e => h ?_
    have := same_iff.mp e
    cases this
    rfl
theorem find_cD (n : Int) : ∀ acc : Cts, (findK (.int n) (cD acc)).getD (.int 0) = .int (lkC n acc : Int)
  | [] => rfl
  | (a, c) :: r => by
    show (if D.same (.int a) (.int n) then some (D.int (c : Int)) else findK (.int n) (cD r)).getD (.int 0) = .int ((if a = n then c else lkC n r : Nat) : Int)
    rw [same_int]
    by_cases h : a = n
    · rw [if_pos h, decide_eq_true h]
      rfl
    · rw [if_neg h, decide_eq_false h]
      exact find_cD n r
theorem put_cD (n : Int) : ∀ acc : Cts, putK (.int n) (.int ((lkC n acc : Int) + 1)) (cD acc) = cD (addC n acc)
  | [] => rfl
  | (a, c) :: r => by
    show putK (.int n) (.int (((if a = n then c else lkC n r : Nat) : Int) + 1)) ((.int a, .int (c : Int)) :: cD r) = cD (if a = n then (a, c + 1) :: r else (a, c) :: addC n r)
    unfold putK
    rw [same_int]
    by_cases h : a = n
    · rw [if_pos h, if_pos h, decide_eq_true h]
      rfl
    · rw [if_neg h, if_neg h, decide_eq_false h]
      show (D.int a, D.int (c : Int)) :: putK (.int n) (.int ((lkC n r : Int) + 1)) (cD r) = (D.int a, D.int (c : Int)) :: cD (addC n r)
      rw [put_cD n r]
theorem ok_cD (n : Int) (acc : Cts) : okK (.int n) (cD acc) = true := by
  unfold okK
  show (true && _) = true
  rw [Bool.true_and, List.all_eq_true]
  intro p hp
  obtain ⟨q, _, rfl⟩ := List.mem_map.mp hp
  rfl
theorem cts_snoc (l : List Int) (n : Int) : cts (l ++ [n]) = addC n (cts l) := by
  unfold cts
  rw [List.foldl_append]
  rfl
theorem addC_key {n x : Int} : ∀ {acc : Cts}, x ∈ (addC n acc).map (·.1) ↔ x = n ∨ x ∈ acc.map (·.1)
  | [] => by show x ∈ [n] ↔ _; simp
  | (a, c) :: r => by
    show x ∈ (if a = n then (a, c + 1) :: r else (a, c) :: addC n r).map (·.1) ↔ _
    split
    · rename_i h
      subst h
      simp
    · rw [List.map_cons, List.mem_cons, addC_key, List.map_cons, List.mem_cons]
      exact ⟨fun h => h.elim (fun e => .inr (.inl e)) fun h => h.elim .inl fun h => .inr (.inr h), fun h => h.elim (fun e => .inr (.inl e)) fun h => h.elim .inl fun h => .inr (.inr h)⟩
theorem addC_nd {n : Int} : ∀ {acc : Cts}, (acc.map (·.1)).Nodup → ((addC n acc).map (·.1)).Nodup
  | [], _ => by show ([n] : List Int).Nodup; simp
  | (a, c) :: r, h => by
    obtain ⟨h1, h2⟩ := List.nodup_cons.mp h
    show ((if a = n then (a, c + 1) :: r else (a, c) :: addC n r).map (·.1)).Nodup
    split
    · exact h
    · rename_i ne
      refine List.nodup_cons.mpr ⟨fun hm => ?_, addC_nd h2⟩
      rcases addC_key.mp hm with e | e
      · exact ne e
      · exact h1 e
theorem addC_lk {n x : Int} : ∀ {acc : Cts}, lkC x (addC n acc) = lkC x acc + if x = n then 1 else 0
  | [] => by
    show (if n = x then 1 else 0) = 0 + _
    by_cases h : x = n
    · rw [if_pos h, if_pos h.symm]
    · rw [if_neg h, if_neg fun e => h e.symm]
  | (a, c) :: r => by
    show lkC x (if a = n then (a, c + 1) :: r else (a, c) :: addC n r) = (if a = x then c else lkC x r) + _
    by_cases h : a = n
    · rw [if_pos h]
      show (if a = x then c + 1 else lkC x r) = _
      by_cases q : a = x
      · rw [if_pos q, if_pos q, if_pos (by omega)]
      · rw [if_neg q, if_neg q, if_neg (by omega)]
        rfl
    · rw [if_neg h]
      show (if a = x then c else lkC x (addC n r)) = _
      by_cases q : a = x
      · rw [if_pos q, if_pos q, if_neg (by omega)]
        rfl
      · rw [if_neg q, if_neg q, addC_lk]
theorem addC_len {n : Int} : ∀ {acc : Cts}, (addC n acc).length ≤ acc.length + 1
  | [] => Nat.le_refl _
  | (a, c) :: r => by
    show (if a = n then (a, c + 1) :: r else (a, c) :: addC n r).length ≤ _
    split
    · simp
    · have := addC_len (n := n) (acc := r)
      simp only [List.length_cons]
      omega
theorem cts_lk (l : List Int) (x : Int) : lkC x (cts l) = l.count x := by
  refine snoc_ind (P := fun l => lkC x (cts l) = l.count x) rfl (fun l n ih => ?_) l
  rw [cts_snoc, addC_lk, ih, List.count_append]
  by_cases h : x = n
  · subst h
    rw [if_pos rfl, List.count_singleton_self]
  · rw [if_neg h, List.count_singleton, if_neg (by simpa using fun e => h e.symm)]
theorem cts_key (l : List Int) (x : Int) : x ∈ (cts l).map (·.1) ↔ x ∈ l := by
  refine snoc_ind (P := fun l => x ∈ (cts l).map (·.1) ↔ x ∈ l) Iff.rfl (fun l n ih => ?_) l
  rw [cts_snoc, addC_key, ih, List.mem_append, List.mem_singleton]
  exact Or.comm
theorem cts_nd (l : List Int) : ((cts l).map (·.1)).Nodup := by
  refine snoc_ind (P := fun l => ((cts l).map (·.1)).Nodup) List.nodup_nil (fun l n ih => ?_) l
  rw [cts_snoc]
  exact addC_nd ih
theorem cts_len (l : List Int) : (cts l).length ≤ l.length := by
  refine snoc_ind (P := fun l => (cts l).length ≤ l.length) (Nat.le_refl _) (fun l n ih => ?_) l
  rw [cts_snoc, List.length_append]
  have := addC_len (n := n) (acc := cts l)
  simp only [List.length_cons, List.length_nil]
  omega
theorem lkC_of : ∀ {acc : Cts}, (acc.map (·.1)).Nodup → ∀ p ∈ acc, lkC p.1 acc = p.2
  | [], _, p, hp => by cases hp
  | (a, c) :: r, h, p, hp => by
    obtain ⟨h1, h2⟩ := List.nodup_cons.mp h
    show (if a = p.1 then c else lkC p.1 r) = p.2
    rcases List.mem_cons.mp hp with rfl | hp
    · rw [if_pos rfl]
    · rw [if_neg fun e => h1 (by
        have e : a = p.1 := e
        show a ∈ _
        rw [e]
        exact List.mem_map_of_mem hp)]
      exact lkC_of h2 p hp
/-- ascending rows of the same are one -/
theorem asc_eq : ∀ {a b : List Int}, a.Pairwise (· < ·) → b.Pairwise (· < ·) → (∀ x, x ∈ a ↔ x ∈ b) → a = b
  | [], [], _, _, _ => rfl
  | [], y :: b, _, _, h => absurd ((h y).mpr List.mem_cons_self) List.not_mem_nil
  | x :: a, [], _, _, h => absurd ((h x).mp List.mem_cons_self) List.not_mem_nil
  | x :: a, y :: b, ha, hb, h => by
    obtain ⟨a1, a2⟩ := List.pairwise_cons.mp ha
    obtain ⟨b1, b2⟩ := List.pairwise_cons.mp hb
    have e : x = y := by
      rcases List.mem_cons.mp ((h x).mp List.mem_cons_self) with q | q
      · exact q
      · rcases List.mem_cons.mp ((h y).mpr List.mem_cons_self) with p | p
        · exact p.symm
        · have := a1 y p
          have := b1 x q
          omega
    subst e
    rw [asc_eq a2 b2 fun z => ⟨fun hz => ?_, fun hz => ?_⟩]
    · rcases List.mem_cons.mp ((h z).mp (List.mem_cons_of_mem _ hz)) with q | q
      · subst q
        exact absurd (a1 z hz) (by omega)
      · exact q
    · rcases List.mem_cons.mp ((h z).mpr (List.mem_cons_of_mem _ hz)) with q | q
      · subst q
        exact absurd (b1 z hz) (by omega)
      · exact q
def prD (p : Int × Nat) : D := .tup [.int p.1, .int (p.2 : Int)]
theorem le_pr (p q : Int × Nat) (h : p.1 = q.1 → p = q) : decide (p.1 ≤ q.1) = leD (prD p) (prD q) := by
  have e : ltD (prD q) (prD p) = ltW [q.1, (q.2 : Int)] [p.1, (p.2 : Int)] := lt_dW [q.1, (q.2 : Int)] [p.1, (p.2 : Int)]
  unfold leD
  rw [e]
  rcases Int.lt_trichotomy p.1 q.1 with c | c | c
  · have : ltW [q.1, (q.2 : Int)] [p.1, (p.2 : Int)] = false := by
      simp [ltW, show ¬ q.1 < p.1 by omega, show ¬ q.1 = p.1 by omega]
    rw [this, decide_eq_true (by omega)]
    rfl
  · have := h c
    subst this
    have : ltW [p.1, (p.2 : Int)] [p.1, (p.2 : Int)] = false := by
      simp [ltW]
    rw [this, decide_eq_true (by omega)]
    rfl
  · have : ltW [q.1, (q.2 : Int)] [p.1, (p.2 : Int)] = true := by
      simp [ltW, show q.1 < p.1 by omega]
    rw [this, decide_eq_false (by omega)]
    rfl
def cntF (l : List Int) (n : Int) : D := .tup [.int n, .int ((l.count n : Nat) : Int)]
theorem items_cD (l : List Int) (hl : l.length ≤ sizeLine) : opSortI (cD (cts l)) = some (.lst ((sortF idI l).map (cntF l))) := by
  have e1 : ((cD (cts l)).map fun q => D.tup [q.1, q.2]) = (cts l).map prD := by
    unfold cD
    rw [List.map_map]
    rfl
  have al : alikes ((cts l).map prD) = true := by
    unfold alikes
    rw [List.all_eq_true]
    intro d hd
    obtain ⟨p, _, rfl⟩ := List.mem_map.mp hd
    have o : (prD p).ok = true := ok_dW [p.1, (p.2 : Int)]
    rw [o, Bool.true_and, Bool.and_eq_true_iff]
    refine ⟨rfl, ?_⟩
    rw [List.all_eq_true]
    intro e he
    obtain ⟨q, _, rfl⟩ := List.mem_map.mp he
    exact alk_dW [p.1, (p.2 : Int)] [q.1, (q.2 : Int)]
  have so : sortable ((cts l).map prD) = true := by
    unfold sortable
    rw [List.all_eq_true]
    intro d hd
    obtain ⟨p, _, rfl⟩ := List.mem_map.mp hd
    rfl
  have nd := cts_nd l
  have inj : ∀ p ∈ cts l, ∀ q ∈ cts l, p.1 = q.1 → p = q := fun p hp q hq e => by
    have h1 := lkC_of nd p hp
    have h2 := lkC_of nd q hq
    rw [e, h2] at h1
    exact Prod.ext e h1.symm
  have ms : ((cts l).mergeSort fun p q => decide (p.1 ≤ q.1)).map prD = ((cts l).map prD).mergeSort leD := List.map_mergeSort fun p hp q hq => le_pr p q (inj p hp q hq)
  have pm : ((cts l).mergeSort fun p q => decide (p.1 ≤ q.1)).Perm (cts l) := List.mergeSort_perm _ _
  have pw : ((cts l).mergeSort fun p q => decide (p.1 ≤ q.1)).Pairwise fun p q => decide (p.1 ≤ q.1) = true := List.pairwise_mergeSort (fun a b c h1 h2 => by
    have := of_decide_eq_true h1
    have := of_decide_eq_true h2
    exact decide_eq_true (by omega)) (fun a b => by
    rw [Bool.or_eq_true, decide_eq_true_iff, decide_eq_true_iff]
    omega) _
  generalize ((cts l).mergeSort fun p q => decide (p.1 ≤ q.1)) = m at ms pm pw
  have em : m.map (·.1) = sortF idI l := by
    refine asc_eq ?_ (sortF_pw (f := idI) l) fun x => ?_
    · have nd2 : (m.map (·.1)).Nodup := (pm.map _).nodup_iff.mpr nd
      rw [List.pairwise_map]
      have := (List.pairwise_map.mp nd2).and pw
      exact this.imp fun {a b} h => by
        have := of_decide_eq_true h.2
        have := h.1
        omega
    · rw [(pm.map (·.1)).mem_iff, cts_key]
      exact (sortF_mem (f := idI) fun a _ b _ (e : a = b) => e).symm
  have e2 : m.map prD = (sortF idI l).map (cntF l) := by
    rw [← em, List.map_map]
    refine List.map_congr_left fun p hp => ?_
    have := lkC_of nd p (pm.mem_iff.mp hp)
    rw [cts_lk] at this
    show prD p = cntF l p.1
    unfold prD cntF
    rw [this]
  have hz : ((cts l).map prD).length ≤ sizeLine := by
    rw [List.length_map]
    exact Nat.le_trans (cts_len l) hl
  unfold opSortI
  rw [e1]
  unfold sortD
  rw [al, so, decide_eq_true hz]
  show some (D.lst (((cts l).map prD).mergeSort leD)) = _
  rw [← ms, e2]
theorem ss_lst {ns : List Int} (h : ns.length < 4000) (hb : ∀ i ∈ ns, 0 ≤ i ∧ i < 63) : ssD (.lst (ns.map .int)) = some (.lst ((sortF idI ns).map .int)) := by
  have e : ssD (.lst (ns.map .int)) = if decide (ns.length < 4000) && (decide (ns.length < 63) || ns.all fun i => decide (0 ≤ i) && decide (i < 63)) then some (.lst ((sortF idI ns).map .int)) else none := by
    show (match ints? (ns.map D.int) with
      | some ns => if decide (ns.length < 4000) && (decide (ns.length < 63) || ns.all fun i => decide (0 ≤ i) && decide (i < 63)) then some (D.lst ((sortF idI ns).map .int)) else none
      | none => _) = _
    rw [Ev.ints_map]
  rw [e, if_pos]
  rw [decide_eq_true h, Bool.true_and, Bool.or_eq_true]
  refine .inr (List.all_eq_true.mpr fun i hi => ?_)
  rw [decide_eq_true (hb i hi).1, decide_eq_true (hb i hi).2]
  rfl
theorem lg_sm {x : Int} (h0 : 0 ≤ x) (h1 : x < 1000) : x.natAbs.log2 < 1920 := by
  have h : x.natAbs < 2 ^ 10 := by omega
  by_cases c : x.natAbs = 0
  · rw [c]
    decide
  · have := (Nat.log2_lt c).mpr h
    omega
/-- a row of numbers and how often -/
theorem shd_cnt {l : List Int} (h : ∀ x ∈ l, 0 ≤ x ∧ x < 1000) (hl : l.length < 1000) (n : Int) (hn : n ∈ l) : shd (4 * (1921 + 2) + 3) (cntF l n) := shd_dW (w := [n, ((l.count n : Nat) : Int)]) (fun x hx => by
  simp only [List.mem_cons, List.not_mem_nil, or_false] at hx
  rcases hx with rfl | rfl
  · exact lg_sm (h _ hn).1 (h _ hn).2
  · have := List.count_le_length (a := n) (l := l)
    exact lg_sm (by omega) (by omega)) (show 2 ≤ 4 by decide)
theorem mem_sf {l : List Int} {x : Int} : x ∈ sortF idI l ↔ x ∈ l := sortF_mem (f := idI) fun a _ b _ (e : a = b) => e
end Ev
end
section
set_option maxHeartbeats 0
namespace K46
open PySem PySem.Spec PyProof.Rows L2 Ev
def d_is_whole : FDef := { ps := ["value"], N := ["value"], body := [.ret (.and (.isT "int" (.bor 0)) (.not (.isT "bool" (.bor 0))))] }
def d_is_between : FDef := { ps := ["value", "least", "most"], N := ["value", "least", "most"], body := [.ret (.and (.call "is_whole" [.loc 0] [] []) (.cmp2 .LtE .LtE (.bor 1) (.bor 0) (.bor 2)))] }
def d_is_tuple_of : FDef := { ps := ["value", "many"], N := ["value", "many"], body := [.ret (.and (.isT "tuple" (.bor 0)) (.cmp .Eq (.blt .len [.bor 0]) (.bor 1)))] }
def d_is_row : FDef := { ps := ["value", "least", "most"], N := ["value", "least", "most"], body := [.ret (.and (.isT "tuple" (.bor 0)) (.cmp2 .LtE .LtE (.bor 1) (.blt .len [.bor 0]) (.bor 2)))] }
def d_first_wrong : FDef := { ps := ["value", "is_right"], N := ["value", "is_right", "index", "each"], cl := true, body := [.for_ (.tp [.nm 2, .nm 3]) (.enum (.loc 0)) [.ite (.not (.callL 1 [.loc 3, .sli (.bor 0) none (some (.bor 2))])) [.ret (.loc 2)] []],
 .ret (.non)] }
def d_is_house : FDef := { ps := ["value"], N := ["value", "own"], body := [.ret (.and (.call "is_tuple_of" [.loc 0, .int 2] [] []) (.blt .all [.lc (.call "is_between" [.loc 1, .glob "FEWEST", .glob "MOST"] [] []) [1] (.nm 1) (.val (.bor 0)) none]))] }
def d_check_house : FDef := { ps := ["value"], N := ["value"], body := [.ite (.not (.call "is_house" [.loc 0] [] [])) [.never] []] }
def d_is_word : FDef := { ps := ["house", "value"], N := ["house", "value", "letter"], body := [.ret (.and (.call "is_tuple_of" [.loc 1, .idx (.bor 0) (.int 0)] [] []) (.blt .all [.lc (.call "is_between" [.loc 2, .int 0, .bin .Sub (.idx (.bor 0) (.int 1)) (.int 1)] [] []) [2] (.nm 2) (.val (.bor 1)) none]))] }
def d_check_word : FDef := { ps := ["house", "value"], N := ["house", "value"], body := [.ite (.not (.call "is_word" [.loc 0, .loc 1] [] [])) [.never] []] }
def d_words_by : FDef := { ps := ["house"], N := ["house", "found", "place", "word", "letter"], body := [.set 1 (.lst [.tup []]),
 .for_ (.nm 2) (.rng1 (.idx (.bor 0) (.int 0))) [.set 1 (.lc2 (.tup [.star (.bor 3), .loc 4]) [3, 4] (.nm 3) (.val (.bor 1)) none (.nm 4) (.rng1 (.idx (.bor 0) (.int 1))) none)],
 .ret (.loc 1)] }
def d_unlike_at : FDef := { ps := ["word", "other"], N := ["word", "other", "one", "two"], body := [.ret (.blt .len [.lc (.int 1) [2, 3] (.tp [.nm 2, .nm 3]) (.zip (.bor 0) (.bor 1)) (some (.cmp .NotEq (.bor 2) (.bor 3)))])] }
def d_rights_by : FDef := { ps := ["guess", "word"], N := ["guess", "word"], body := [.ret (.bin .Sub (.blt .len [.bor 1]) (.call "unlike_at" [.loc 0, .loc 1] [] []))] }
def d_wrong_some : FDef := { ps := ["house", "value"], N := ["house", "value", "word", "ahead"], lt := some 0, body := [.ret (.callH "first_wrong" (.loc 1) [2, 3] (.call "is_word" [.loc 0, .loc 2] [] []))] }
def d_are_some : FDef := { ps := ["house", "value"], N := ["house", "value"], body := [.ret (.and (.call "is_row" [.loc 1, .int 1, .glob "MOST_SOME"] [] []) (.cmp .Is (.call "wrong_some" [.loc 0, .loc 1] [] []) (.non)))] }
def d_check_guesses : FDef := { ps := ["house", "some"], N := ["house", "some", "wrong"], body := [.ite (.not (.call "is_row" [.loc 1, .int 1, .glob "MOST_SOME"] [] [])) [.never] [],
 .set 2 (.call "wrong_some" [.loc 0, .loc 1] [] []),
 .ite (.cmp .IsNot (.bor 2) (.non)) [.never] []] }
def d_is_total_pair : FDef := { ps := ["house", "value"], N := ["house", "value"], body := [.ite (.or (.not (.call "is_tuple_of" [.loc 1, .int 2] [] [])) (.not (.call "are_some" [.loc 0, .idx (.bor 1) (.int 0)] [] []))) [.ret (.bl false)] [],
 .ret (.call "is_between" [.idx (.bor 1) (.int 1), .int 0, .bin .Mult (.idx (.bor 0) (.int 0)) (.blt .len [.idx (.bor 1) (.int 0)])] [] [])] }
def d_wrong_pair : FDef := { ps := ["house", "value"], N := ["house", "value", "pair", "ahead"], lt := some 1, body := [.ret (.callH "first_wrong" (.loc 1) [2, 3] (.call "is_total_pair" [.loc 0, .loc 2] [] []))] }
def d_total_by : FDef := { ps := ["some", "word"], N := ["some", "word", "guess"], body := [.ret (.blt .sum [.lc (.call "rights_by" [.loc 2, .loc 1] [] []) [2] (.nm 2) (.val (.bor 0)) none])] }
def d_totals_by : FDef := { ps := ["house", "some"], N := ["house", "some", "found", "word"], body := [.new 2 (.dct0),
 .for_ (.nm 3) (.val (.call "words_by" [.loc 0] [] [])) [.asg (.sub 2 (.call "total_by" [.loc 1, .loc 3] [] [])) (.bin .Add (.mth .get2 (.bor 2) [.call "total_by" [.loc 1, .loc 3] [] [], .int 0]) (.int 1))],
 .ret (.blt .tuple [.vw .sortI (.bor 2)])] }
def d_is_left_total : FDef := { ps := ["log", "word"], N := ["log", "word", "some", "total"], body := [.ret (.blt .all [.lc (.cmp .Eq (.call "total_by" [.loc 2, .loc 1] [] []) (.bor 3)) [2, 3] (.tp [.nm 2, .nm 3]) (.val (.bor 0)) none])] }
def d_left_by : FDef := { ps := ["house", "log"], N := ["house", "log", "word"], body := [.ret (.blt .tuple [.lc (.loc 2) [2] (.nm 2) (.val (.call "words_by" [.loc 0] [] [])) (some (.call "is_left_total" [.loc 1, .loc 2] [] []))])] }
def d_check_some_of : FDef := { ps := ["house", "some"], N := ["house", "some"], body := [.exp (.call "check_house" [.loc 0] [] []),
 .exp (.call "check_guesses" [.loc 0, .loc 1] [] [])] }
def d_check_total : FDef := { ps := ["house", "some", "word"], N := ["house", "some", "word"], body := [.exp (.call "check_some_of" [.loc 0, .loc 1] [] []),
 .exp (.call "check_word" [.loc 0, .loc 2] [] [])] }
def d_check_log : FDef := { ps := ["house", "log"], N := ["house", "log", "wrong"], body := [.exp (.call "check_house" [.loc 0] [] []),
 .ite (.not (.call "is_row" [.loc 1, .int 0, .glob "MOST_LOG"] [] [])) [.never] [],
 .set 2 (.call "wrong_pair" [.loc 0, .loc 1] [] []),
 .ite (.cmp .IsNot (.bor 2) (.non)) [.never] []] }
def d_total : FDef := { ps := ["house", "some", "word"], N := ["house", "some", "word"], body := [.exp (.call "check_total" [.loc 0, .loc 1, .loc 2] [] []),
 .ret (.call "total_by" [.loc 1, .loc 2] [] [])] }
def d_totals : FDef := { ps := ["house", "some"], N := ["house", "some"], body := [.exp (.call "check_some_of" [.loc 0, .loc 1] [] []),
 .ret (.call "totals_by" [.loc 0, .loc 1] [] [])] }
def d_left_by_totals : FDef := { ps := ["house", "log"], N := ["house", "log"], body := [.exp (.call "check_log" [.loc 0, .loc 1] [] []),
 .ret (.call "left_by" [.loc 0, .loc 1] [] [])] }
def d__law_pool : FDef := { ps := ["script", "k"], N := ["script", "k", "wide", "each", "cell", "mixed"], body := [.par 4 5 (.blt .sum [.sli (.bor 0) (some (.bor 1)) (some (.bin .Add (.bor 1) (.int 1)))]) (.bin .Add (.int 50021) (.bin .Mult (.int 977) (.bor 1))),
 .set 2 (.bin .Mult (.bin .Mult (.bin .Mult (.bin .Mult (.bin .Mult (.bin .Pow (.int 10) (.int 64)) (.bin .Pow (.int 10) (.int 64))) (.bin .Pow (.int 10) (.int 64))) (.bin .Pow (.int 10) (.int 64))) (.bin .Pow (.int 10) (.int 64))) (.bin .Pow (.int 10) (.int 64))),
 .for_ (.nm 3) (.val (.sli (.bor 0) none (some (.int 12)))) [.set 5 (.bin .Mod (.bin .Add (.bin .Add (.bin .Mult (.bor 5) (.int 48271)) (.bin .Mult (.bin .Mod (.bor 3) (.int 2147483399)) (.int 19))) (.int 7)) (.int 2147483399))],
 .ret (.newl [.ite (.or (.cmp .Lt (.bor 4) (.int 0)) (.cmp .GtE (.bor 4) (.bin .Pow (.int 10) (.int 18)))) (.bin .Mod (.blt .abs [.bor 4]) (.bor 2)) (.int 0), .loc 5, .int 0])] }
def d__law_take : FDef := { ps := ["pool", "many"], N := ["pool", "many", "stirred", "digit"], body := [.ite (.cmp .Gt (.idx (.bor 0) (.int 0)) (.int 0)) [.tas [.sub 0 (.int 0), .nm 3] (.blt .divmod [.idx (.bor 0) (.int 0), .bor 1]),
 .ret (.loc 3)] [],
 .asg (.sub 0 (.int 2)) (.bin .Add (.idx (.bor 0) (.int 2)) (.int 1)),
 .set 2 (.bin .Mod (.bin .Add (.idx (.bor 0) (.int 1)) (.bin .Mult (.int 28657) (.idx (.bor 0) (.int 2)))) (.int 2147483399)),
 .asg (.sub 0 (.int 1)) (.bin .Mod (.bin .Add (.bin .Mult (.bor 2) (.bin .Add (.bin .Mod (.bor 2) (.int 5003)) (.int 48271))) (.bin .Mult (.int 17) (.idx (.bor 0) (.int 2)))) (.int 2147483399)),
 .ret (.bin .Mod (.bin .FloorDiv (.idx (.bor 0) (.int 1)) (.int 613)) (.bor 1))] }
def d__law_of : FDef := { ps := ["pool", "some"], N := ["pool", "some"], body := [.ret (.idx (.bor 1) (.call "_law_take" [.loc 0, .blt .len [.bor 1]] [] []))] }
def d__law_words : FDef := { ps := ["house"], N := ["house", "found", "place", "longer", "some", "letter"], body := [.set 1 (.lst [.tup []]),
 .for_ (.nm 2) (.rng1 (.idx (.bor 0) (.int 0))) [.new 3 (.lst []),
 .for_ (.nm 4) (.val (.loc 1)) [.ext 3 (.lc (.bin .Add (.bor 4) (.tup [.loc 5])) [5] (.nm 5) (.rng1 (.idx (.bor 0) (.int 1))) none)],
 .fz [3] (.set 1 (.loc 3))],
 .ret (.loc 1)] }
def d__law_answer : FDef := { ps := ["rule", "guess", "word"], N := ["rule", "guess", "word", "right", "unlike", "found", "k", "one", "two"], body := [.set 3 (.lc (.cmp .Eq (.bor 7) (.bor 8)) [7, 8] (.tp [.nm 7, .nm 8]) (.zip (.bor 1) (.bor 2)) none),
 .new 4 (.lc (.idx (.bor 2) (.bor 6)) [6] (.nm 6) (.rng1 (.blt .len [.bor 2])) (some (.not (.idx (.bor 3) (.bor 6))))),
 .new 5 (.lst []),
 .for_ (.nm 6) (.rng1 (.blt .len [.bor 1])) [.app 5 (.ite (.idx (.bor 3) (.bor 6)) (.int 2) (.blt .int [.cmp .In (.idx (.bor 1) (.bor 6)) (.bor 4)])),
 .ite (.and (.not (.idx (.bor 3) (.bor 6))) (.cmp .In (.idx (.bor 1) (.bor 6)) (.bor 4))) [.rem 4 (.idx (.bor 1) (.bor 6))] []],
 .ite (.cmp .Eq (.bor 0) (.str "rights")) [.ret (.mth .count (.bor 5) [.int 2])] [],
 .ret (.ite (.cmp .Eq (.bor 0) (.str "marks")) (.blt .tuple [.bor 5]) (.tup [.mth .count (.bor 5) [.int 2], .mth .count (.bor 5) [.int 1]]))] }
def d__law_house : FDef := { ps := ["pool", "most"], N := ["pool", "most", "houses"], body := [.set 2 (.lst [.tup [.int 2, .int 2], .tup [.int 2, .int 3], .tup [.int 3, .int 2], .tup [.int 2, .int 4], .tup [.int 4, .int 2], .tup [.int 3, .int 3], .tup [.int 3, .int 4], .tup [.int 4, .int 3]]),
 .ret (.tup [.call "_law_of" [.loc 0, .sli (.bor 2) none (some (.bor 1))] [] [], .call "_law_of" [.loc 0, .lst [.str "marks", .str "counts", .str "rights"]] [] []])] }
def d__law_some : FDef := { ps := ["pool", "every", "most"], N := ["pool", "every", "most", "found", "turn"], body := [.set 3 (.newl [.call "_law_of" [.loc 0, .loc 1] [] []]),
 .for_ (.nm 4) (.rng1 (.call "_law_take" [.loc 0, .loc 2] [] [])) [.appR 3 (.call "_law_of" [.loc 0, .ite (.cmp .Eq (.call "_law_take" [.loc 0, .int 5] [] []) (.int 0)) (.loc 3) (.loc 1)] [] [])],
 .ret (.blt .tuple [.bor 3])] }
def d__law_total : FDef := { ps := ["some", "word"], N := ["some", "word", "guess"], body := [.ret (.blt .sum [.lc (.call "_law_answer" [.str "rights", .loc 2, .loc 1] [] []) [2] (.nm 2) (.val (.bor 0)) none])] }
def d__law_right : FDef := { ps := ["pool", "most"], N := ["pool", "most", "every", "sums", "due", "log", "turn", "house", "rule", "some", "word", "each", "number", "told"], body := [.tas [.nm 7, .nm 8] (.call "_law_house" [.loc 0, .loc 1] [] []),
 .set 2 (.call "_law_words" [.loc 7] [] []),
 .tas [.nm 9, .nm 10] (.tup [.call "_law_some" [.loc 0, .loc 2, .int 4] [] [], .call "_law_of" [.loc 0, .loc 2] [] []]),
 .set 3 (.lc (.call "_law_total" [.loc 9, .loc 11] [] []) [11] (.nm 11) (.val (.bor 2)) none),
 .set 4 (.lst [.call "_law_total" [.loc 9, .loc 10] [] [], .blt .tuple [.lc (.tup [.loc 12, .mth .count (.bor 3) [.loc 12]]) [12] (.nm 12) (.val (.sset (.bor 3))) none]]),
 .ite (.cmp .NotEq (.blt .repr [.lst [.call "total" [.loc 7, .loc 9, .loc 10] [] [], .call "totals" [.loc 7, .loc 9] [] []]]) (.blt .repr [.bor 4])) [.ret (.bl false)] [],
 .ite (.cmp .NotEq (.blt .repr [.lst [.call "total" [] ["word", "some", "house"] [.loc 10, .loc 9, .loc 7], .call "totals" [] ["some", "house"] [.loc 9, .loc 7]]]) (.blt .repr [.bor 4])) [.ret (.bl false)] [],
 .new 5 (.lst []),
 .for_ (.nm 6) (.rng1 (.call "_law_take" [.loc 0, .int 5] [] [])) [.set 9 (.call "_law_some" [.loc 0, .loc 2, .int 4] [] []),
 .app 5 (.tup [.loc 9, .call "_law_total" [.loc 9, .ite (.cmp .Gt (.call "_law_take" [.loc 0, .int 4] [] []) (.int 0)) (.loc 10) (.call "_law_of" [.loc 0, .loc 2] [] [])] [] []])],
 .set 4 (.blt .tuple [.lc (.loc 11) [11] (.nm 11) (.val (.bor 2)) (some (.blt .all [.lc (.cmp .Eq (.call "_law_total" [.loc 9, .loc 11] [] []) (.bor 13)) [9, 13] (.tp [.nm 9, .nm 13]) (.val (.bor 5)) none]))]),
 .ret (.cmp .Eq (.blt .repr [.lst [.call "left_by_totals" [.loc 7, .blt .tuple [.bor 5]] [] [], .call "left_by_totals" [] ["log", "house"] [.blt .tuple [.bor 5], .loc 7]]]) (.blt .repr [.lst [.loc 4, .loc 4]]))] }
def d_law : FDef := { ps := ["script"], N := ["script", "k", "pool", "most"], body := [.for_ (.nm 1) (.rng1 (.blt .max2 [.int 2, .blt .min2 [.blt .len [.bor 0], .int 3]])) [.set 2 (.call "_law_pool" [.loc 0, .loc 1] [] []),
 .for_ (.nm 3) (.val (.lst [.int 6, .int 4, .int 2, .int 5, .int 6])) [.ite (.not (.call "_law_right" [.loc 2, .loc 3] [] [])) [.ret (.bl false)] []]],
 .ret (.bl true)] }
def TT : List (Str × FDef) := [(("is_whole" : Str), d_is_whole), (("is_between" : Str), d_is_between), (("is_tuple_of" : Str), d_is_tuple_of), (("is_row" : Str), d_is_row), (("first_wrong" : Str), d_first_wrong), (("is_house" : Str), d_is_house), (("check_house" : Str), d_check_house), (("is_word" : Str), d_is_word), (("check_word" : Str), d_check_word), (("words_by" : Str), d_words_by), (("unlike_at" : Str), d_unlike_at), (("rights_by" : Str), d_rights_by), (("wrong_some" : Str), d_wrong_some), (("are_some" : Str), d_are_some), (("check_guesses" : Str), d_check_guesses), (("is_total_pair" : Str), d_is_total_pair), (("wrong_pair" : Str), d_wrong_pair), (("total_by" : Str), d_total_by), (("totals_by" : Str), d_totals_by), (("is_left_total" : Str), d_is_left_total), (("left_by" : Str), d_left_by), (("check_some_of" : Str), d_check_some_of), (("check_total" : Str), d_check_total), (("check_log" : Str), d_check_log), (("total" : Str), d_total), (("totals" : Str), d_totals), (("left_by_totals" : Str), d_left_by_totals), (("_law_pool" : Str), d__law_pool), (("_law_take" : Str), d__law_take), (("_law_of" : Str), d__law_of), (("_law_words" : Str), d__law_words), (("_law_answer" : Str), d__law_answer), (("_law_house" : Str), d__law_house), (("_law_some" : Str), d__law_some), (("_law_total" : Str), d__law_total), (("_law_right" : Str), d__law_right), (("law" : Str), d_law)]
def gls : List (Str × D) := [(("FEWEST" : Str), .int 2), (("MOST" : Str), .int 4), (("MOST_SOME" : Str), .int 4), (("MOST_LOG" : Str), .int 4)]
def bts : List Str := [("abs" : Str), ("all" : Str), ("bool" : Str), ("divmod" : Str), ("enumerate" : Str), ("int" : Str), ("isinstance" : Str), ("len" : Str), ("max" : Str), ("min" : Str), ("range" : Str), ("repr" : Str), ("set" : Str), ("sorted" : Str), ("sum" : Str), ("tuple" : Str), ("zip" : Str)]
def tf : List He.Defn := [(("wrong_some" : Str), none), (("wrong_pair" : Str), none)]
def qs : List Str := ["wrong_some.<locals>.<lambda>", "wrong_pair.<locals>.<lambda>"]
abbrev bd : List Stmt := PySem.Challenge.pw_guesswords_k46_totals.main.body
theorem chk : lawChk TT gls bts tf qs bd = true := by kernel_rfl
def toNm (s : Stmt) : List Str := match s with
  | .FunctionDef n _ _ _ _ _ _ _ _ _ => [n]
  | _ => []
abbrev R : PySem.W.OpenRow := PySem.W.OpenLaw.row PySem.Challenge.rw_guesswords_k46_totals
abbrev hk : PySem.W.Hook := lawHook TT gls bts tf bd
def ob (s : PySem.W.SharedT) : He.AlX := He.obsX 5 (faOf TT bts) (toDs TT bd) [] tf (exB gls tf) (HandSHeadRun.getT s)
theorem ob_eq (s : PySem.W.SharedT) : ob s = hk.obs s.abs := He.obsX_eq (HandSHeadRun.getT_eq s)
def loose : List Str := (PySem.Challenge.pw_guesswords_k46_totals.main.scope.names.map (·.1)).filter fun x => !decide (x = ("law" : Str)) && !decide (x = ("__name__" : Str))
theorem run (w : World) : HandSHeadRun.RunEq R (PySem.W.view R.prog [51]) hk ob 4000 loose w := by
  intro os
  kernel_rfl
end K46
end
section
set_option maxHeartbeats 1000000
namespace K46
open PySem PySem.Spec PyProof.Rows L2 Ev
abbrev ct (n : Nat) : CT := ctOf TT (glF gls) 100 n
theorem lk_is_whole : TT.lookup ("is_whole" : Str) = some d_is_whole := by kernel_rfl
theorem c_is_whole (n : Nat) : (ct (n + 1)).fn ("is_whole" : Str) = runF (evSs (ct n) d_is_whole.body) 1 := ctOf_fn lk_is_whole rfl n
theorem k_is_whole (n : Nat) (x0 : D) : callC (ct n) ("is_whole" : Str) [x0] [] = (ct n).fn ("is_whole" : Str) [x0] := callC0 (by rw [ctOf_sig]; show (TT.lookup _).map _ = _; rw [lk_is_whole]; rfl) rfl (by decide)
theorem lk_is_between : TT.lookup ("is_between" : Str) = some d_is_between := by kernel_rfl
theorem c_is_between (n : Nat) : (ct (n + 1)).fn ("is_between" : Str) = runF (evSs (ct n) d_is_between.body) 3 := ctOf_fn lk_is_between rfl n
theorem k_is_between (n : Nat) (x0 x1 x2 : D) : callC (ct n) ("is_between" : Str) [x0, x1, x2] [] = (ct n).fn ("is_between" : Str) [x0, x1, x2] := callC0 (by rw [ctOf_sig]; show (TT.lookup _).map _ = _; rw [lk_is_between]; rfl) rfl (by decide)
theorem lk_is_tuple_of : TT.lookup ("is_tuple_of" : Str) = some d_is_tuple_of := by kernel_rfl
theorem c_is_tuple_of (n : Nat) : (ct (n + 1)).fn ("is_tuple_of" : Str) = runF (evSs (ct n) d_is_tuple_of.body) 2 := ctOf_fn lk_is_tuple_of rfl n
theorem k_is_tuple_of (n : Nat) (x0 x1 : D) : callC (ct n) ("is_tuple_of" : Str) [x0, x1] [] = (ct n).fn ("is_tuple_of" : Str) [x0, x1] := callC0 (by rw [ctOf_sig]; show (TT.lookup _).map _ = _; rw [lk_is_tuple_of]; rfl) rfl (by decide)
theorem lk_is_row : TT.lookup ("is_row" : Str) = some d_is_row := by kernel_rfl
theorem c_is_row (n : Nat) : (ct (n + 1)).fn ("is_row" : Str) = runF (evSs (ct n) d_is_row.body) 3 := ctOf_fn lk_is_row rfl n
theorem k_is_row (n : Nat) (x0 x1 x2 : D) : callC (ct n) ("is_row" : Str) [x0, x1, x2] [] = (ct n).fn ("is_row" : Str) [x0, x1, x2] := callC0 (by rw [ctOf_sig]; show (TT.lookup _).map _ = _; rw [lk_is_row]; rfl) rfl (by decide)
theorem lk_first_wrong : TT.lookup ("first_wrong" : Str) = some d_first_wrong := by kernel_rfl
theorem lk_is_house : TT.lookup ("is_house" : Str) = some d_is_house := by kernel_rfl
theorem c_is_house (n : Nat) : (ct (n + 1)).fn ("is_house" : Str) = runF (evSs (ct n) d_is_house.body) 2 := ctOf_fn lk_is_house rfl n
theorem k_is_house (n : Nat) (x0 : D) : callC (ct n) ("is_house" : Str) [x0] [] = (ct n).fn ("is_house" : Str) [x0] := callC0 (by rw [ctOf_sig]; show (TT.lookup _).map _ = _; rw [lk_is_house]; rfl) rfl (by decide)
theorem lk_check_house : TT.lookup ("check_house" : Str) = some d_check_house := by kernel_rfl
theorem c_check_house (n : Nat) : (ct (n + 1)).fn ("check_house" : Str) = runF (evSs (ct n) d_check_house.body) 1 := ctOf_fn lk_check_house rfl n
theorem k_check_house (n : Nat) (x0 : D) : callC (ct n) ("check_house" : Str) [x0] [] = (ct n).fn ("check_house" : Str) [x0] := callC0 (by rw [ctOf_sig]; show (TT.lookup _).map _ = _; rw [lk_check_house]; rfl) rfl (by decide)
theorem lk_is_word : TT.lookup ("is_word" : Str) = some d_is_word := by kernel_rfl
theorem c_is_word (n : Nat) : (ct (n + 1)).fn ("is_word" : Str) = runF (evSs (ct n) d_is_word.body) 3 := ctOf_fn lk_is_word rfl n
theorem k_is_word (n : Nat) (x0 x1 : D) : callC (ct n) ("is_word" : Str) [x0, x1] [] = (ct n).fn ("is_word" : Str) [x0, x1] := callC0 (by rw [ctOf_sig]; show (TT.lookup _).map _ = _; rw [lk_is_word]; rfl) rfl (by decide)
theorem lk_check_word : TT.lookup ("check_word" : Str) = some d_check_word := by kernel_rfl
theorem c_check_word (n : Nat) : (ct (n + 1)).fn ("check_word" : Str) = runF (evSs (ct n) d_check_word.body) 2 := ctOf_fn lk_check_word rfl n
theorem k_check_word (n : Nat) (x0 x1 : D) : callC (ct n) ("check_word" : Str) [x0, x1] [] = (ct n).fn ("check_word" : Str) [x0, x1] := callC0 (by rw [ctOf_sig]; show (TT.lookup _).map _ = _; rw [lk_check_word]; rfl) rfl (by decide)
theorem lk_words_by : TT.lookup ("words_by" : Str) = some d_words_by := by kernel_rfl
theorem c_words_by (n : Nat) : (ct (n + 1)).fn ("words_by" : Str) = runF (evSs (ct n) d_words_by.body) 5 := ctOf_fn lk_words_by rfl n
theorem k_words_by (n : Nat) (x0 : D) : callC (ct n) ("words_by" : Str) [x0] [] = (ct n).fn ("words_by" : Str) [x0] := callC0 (by rw [ctOf_sig]; show (TT.lookup _).map _ = _; rw [lk_words_by]; rfl) rfl (by decide)
theorem lk_unlike_at : TT.lookup ("unlike_at" : Str) = some d_unlike_at := by kernel_rfl
theorem c_unlike_at (n : Nat) : (ct (n + 1)).fn ("unlike_at" : Str) = runF (evSs (ct n) d_unlike_at.body) 4 := ctOf_fn lk_unlike_at rfl n
theorem k_unlike_at (n : Nat) (x0 x1 : D) : callC (ct n) ("unlike_at" : Str) [x0, x1] [] = (ct n).fn ("unlike_at" : Str) [x0, x1] := callC0 (by rw [ctOf_sig]; show (TT.lookup _).map _ = _; rw [lk_unlike_at]; rfl) rfl (by decide)
theorem lk_rights_by : TT.lookup ("rights_by" : Str) = some d_rights_by := by kernel_rfl
theorem c_rights_by (n : Nat) : (ct (n + 1)).fn ("rights_by" : Str) = runF (evSs (ct n) d_rights_by.body) 2 := ctOf_fn lk_rights_by rfl n
theorem k_rights_by (n : Nat) (x0 x1 : D) : callC (ct n) ("rights_by" : Str) [x0, x1] [] = (ct n).fn ("rights_by" : Str) [x0, x1] := callC0 (by rw [ctOf_sig]; show (TT.lookup _).map _ = _; rw [lk_rights_by]; rfl) rfl (by decide)
theorem lk_wrong_some : TT.lookup ("wrong_some" : Str) = some d_wrong_some := by kernel_rfl
theorem c_wrong_some (n : Nat) : (ct (n + 3)).fn ("wrong_some" : Str) = runF (evSs (ct (n + 2)) d_wrong_some.body) 4 := ctOf_fn3 lk_wrong_some n
theorem k_wrong_some (n : Nat) (x0 x1 : D) : callC (ct n) ("wrong_some" : Str) [x0, x1] [] = (ct n).fn ("wrong_some" : Str) [x0, x1] := callC0 (by rw [ctOf_sig]; show (TT.lookup _).map _ = _; rw [lk_wrong_some]; rfl) rfl (by decide)
theorem lk_are_some : TT.lookup ("are_some" : Str) = some d_are_some := by kernel_rfl
theorem c_are_some (n : Nat) : (ct (n + 1)).fn ("are_some" : Str) = runF (evSs (ct n) d_are_some.body) 2 := ctOf_fn lk_are_some rfl n
theorem k_are_some (n : Nat) (x0 x1 : D) : callC (ct n) ("are_some" : Str) [x0, x1] [] = (ct n).fn ("are_some" : Str) [x0, x1] := callC0 (by rw [ctOf_sig]; show (TT.lookup _).map _ = _; rw [lk_are_some]; rfl) rfl (by decide)
theorem lk_check_guesses : TT.lookup ("check_guesses" : Str) = some d_check_guesses := by kernel_rfl
theorem c_check_guesses (n : Nat) : (ct (n + 1)).fn ("check_guesses" : Str) = runF (evSs (ct n) d_check_guesses.body) 3 := ctOf_fn lk_check_guesses rfl n
theorem k_check_guesses (n : Nat) (x0 x1 : D) : callC (ct n) ("check_guesses" : Str) [x0, x1] [] = (ct n).fn ("check_guesses" : Str) [x0, x1] := callC0 (by rw [ctOf_sig]; show (TT.lookup _).map _ = _; rw [lk_check_guesses]; rfl) rfl (by decide)
theorem lk_is_total_pair : TT.lookup ("is_total_pair" : Str) = some d_is_total_pair := by kernel_rfl
theorem c_is_total_pair (n : Nat) : (ct (n + 1)).fn ("is_total_pair" : Str) = runF (evSs (ct n) d_is_total_pair.body) 2 := ctOf_fn lk_is_total_pair rfl n
theorem k_is_total_pair (n : Nat) (x0 x1 : D) : callC (ct n) ("is_total_pair" : Str) [x0, x1] [] = (ct n).fn ("is_total_pair" : Str) [x0, x1] := callC0 (by rw [ctOf_sig]; show (TT.lookup _).map _ = _; rw [lk_is_total_pair]; rfl) rfl (by decide)
theorem lk_wrong_pair : TT.lookup ("wrong_pair" : Str) = some d_wrong_pair := by kernel_rfl
theorem c_wrong_pair (n : Nat) : (ct (n + 3)).fn ("wrong_pair" : Str) = runF (evSs (ct (n + 2)) d_wrong_pair.body) 4 := ctOf_fn3 lk_wrong_pair n
theorem k_wrong_pair (n : Nat) (x0 x1 : D) : callC (ct n) ("wrong_pair" : Str) [x0, x1] [] = (ct n).fn ("wrong_pair" : Str) [x0, x1] := callC0 (by rw [ctOf_sig]; show (TT.lookup _).map _ = _; rw [lk_wrong_pair]; rfl) rfl (by decide)
theorem lk_total_by : TT.lookup ("total_by" : Str) = some d_total_by := by kernel_rfl
theorem c_total_by (n : Nat) : (ct (n + 1)).fn ("total_by" : Str) = runF (evSs (ct n) d_total_by.body) 3 := ctOf_fn lk_total_by rfl n
theorem k_total_by (n : Nat) (x0 x1 : D) : callC (ct n) ("total_by" : Str) [x0, x1] [] = (ct n).fn ("total_by" : Str) [x0, x1] := callC0 (by rw [ctOf_sig]; show (TT.lookup _).map _ = _; rw [lk_total_by]; rfl) rfl (by decide)
theorem lk_totals_by : TT.lookup ("totals_by" : Str) = some d_totals_by := by kernel_rfl
theorem c_totals_by (n : Nat) : (ct (n + 1)).fn ("totals_by" : Str) = runF (evSs (ct n) d_totals_by.body) 4 := ctOf_fn lk_totals_by rfl n
theorem k_totals_by (n : Nat) (x0 x1 : D) : callC (ct n) ("totals_by" : Str) [x0, x1] [] = (ct n).fn ("totals_by" : Str) [x0, x1] := callC0 (by rw [ctOf_sig]; show (TT.lookup _).map _ = _; rw [lk_totals_by]; rfl) rfl (by decide)
theorem lk_is_left_total : TT.lookup ("is_left_total" : Str) = some d_is_left_total := by kernel_rfl
theorem c_is_left_total (n : Nat) : (ct (n + 1)).fn ("is_left_total" : Str) = runF (evSs (ct n) d_is_left_total.body) 4 := ctOf_fn lk_is_left_total rfl n
theorem k_is_left_total (n : Nat) (x0 x1 : D) : callC (ct n) ("is_left_total" : Str) [x0, x1] [] = (ct n).fn ("is_left_total" : Str) [x0, x1] := callC0 (by rw [ctOf_sig]; show (TT.lookup _).map _ = _; rw [lk_is_left_total]; rfl) rfl (by decide)
theorem lk_left_by : TT.lookup ("left_by" : Str) = some d_left_by := by kernel_rfl
theorem c_left_by (n : Nat) : (ct (n + 1)).fn ("left_by" : Str) = runF (evSs (ct n) d_left_by.body) 3 := ctOf_fn lk_left_by rfl n
theorem k_left_by (n : Nat) (x0 x1 : D) : callC (ct n) ("left_by" : Str) [x0, x1] [] = (ct n).fn ("left_by" : Str) [x0, x1] := callC0 (by rw [ctOf_sig]; show (TT.lookup _).map _ = _; rw [lk_left_by]; rfl) rfl (by decide)
theorem lk_check_some_of : TT.lookup ("check_some_of" : Str) = some d_check_some_of := by kernel_rfl
theorem c_check_some_of (n : Nat) : (ct (n + 1)).fn ("check_some_of" : Str) = runF (evSs (ct n) d_check_some_of.body) 2 := ctOf_fn lk_check_some_of rfl n
theorem k_check_some_of (n : Nat) (x0 x1 : D) : callC (ct n) ("check_some_of" : Str) [x0, x1] [] = (ct n).fn ("check_some_of" : Str) [x0, x1] := callC0 (by rw [ctOf_sig]; show (TT.lookup _).map _ = _; rw [lk_check_some_of]; rfl) rfl (by decide)
theorem lk_check_total : TT.lookup ("check_total" : Str) = some d_check_total := by kernel_rfl
theorem c_check_total (n : Nat) : (ct (n + 1)).fn ("check_total" : Str) = runF (evSs (ct n) d_check_total.body) 3 := ctOf_fn lk_check_total rfl n
theorem k_check_total (n : Nat) (x0 x1 x2 : D) : callC (ct n) ("check_total" : Str) [x0, x1, x2] [] = (ct n).fn ("check_total" : Str) [x0, x1, x2] := callC0 (by rw [ctOf_sig]; show (TT.lookup _).map _ = _; rw [lk_check_total]; rfl) rfl (by decide)
theorem lk_check_log : TT.lookup ("check_log" : Str) = some d_check_log := by kernel_rfl
theorem c_check_log (n : Nat) : (ct (n + 1)).fn ("check_log" : Str) = runF (evSs (ct n) d_check_log.body) 3 := ctOf_fn lk_check_log rfl n
theorem k_check_log (n : Nat) (x0 x1 : D) : callC (ct n) ("check_log" : Str) [x0, x1] [] = (ct n).fn ("check_log" : Str) [x0, x1] := callC0 (by rw [ctOf_sig]; show (TT.lookup _).map _ = _; rw [lk_check_log]; rfl) rfl (by decide)
theorem lk_total : TT.lookup ("total" : Str) = some d_total := by kernel_rfl
theorem c_total (n : Nat) : (ct (n + 1)).fn ("total" : Str) = runF (evSs (ct n) d_total.body) 3 := ctOf_fn lk_total rfl n
theorem k_total (n : Nat) (x0 x1 x2 : D) : callC (ct n) ("total" : Str) [x0, x1, x2] [] = (ct n).fn ("total" : Str) [x0, x1, x2] := callC0 (by rw [ctOf_sig]; show (TT.lookup _).map _ = _; rw [lk_total]; rfl) rfl (by decide)
theorem lk_totals : TT.lookup ("totals" : Str) = some d_totals := by kernel_rfl
theorem c_totals (n : Nat) : (ct (n + 1)).fn ("totals" : Str) = runF (evSs (ct n) d_totals.body) 2 := ctOf_fn lk_totals rfl n
theorem k_totals (n : Nat) (x0 x1 : D) : callC (ct n) ("totals" : Str) [x0, x1] [] = (ct n).fn ("totals" : Str) [x0, x1] := callC0 (by rw [ctOf_sig]; show (TT.lookup _).map _ = _; rw [lk_totals]; rfl) rfl (by decide)
theorem lk_left_by_totals : TT.lookup ("left_by_totals" : Str) = some d_left_by_totals := by kernel_rfl
theorem c_left_by_totals (n : Nat) : (ct (n + 1)).fn ("left_by_totals" : Str) = runF (evSs (ct n) d_left_by_totals.body) 2 := ctOf_fn lk_left_by_totals rfl n
theorem k_left_by_totals (n : Nat) (x0 x1 : D) : callC (ct n) ("left_by_totals" : Str) [x0, x1] [] = (ct n).fn ("left_by_totals" : Str) [x0, x1] := callC0 (by rw [ctOf_sig]; show (TT.lookup _).map _ = _; rw [lk_left_by_totals]; rfl) rfl (by decide)
theorem lk__law_pool : TT.lookup ("_law_pool" : Str) = some d__law_pool := by kernel_rfl
theorem c__law_pool (n : Nat) : (ct (n + 1)).fn ("_law_pool" : Str) = runF (evSs (ct n) d__law_pool.body) 6 := ctOf_fn lk__law_pool rfl n
theorem k__law_pool (n : Nat) (x0 x1 : D) : callC (ct n) ("_law_pool" : Str) [x0, x1] [] = (ct n).fn ("_law_pool" : Str) [x0, x1] := callC0 (by rw [ctOf_sig]; show (TT.lookup _).map _ = _; rw [lk__law_pool]; rfl) rfl (by decide)
theorem lk__law_take : TT.lookup ("_law_take" : Str) = some d__law_take := by kernel_rfl
theorem c__law_take (n : Nat) : (ct (n + 1)).fn ("_law_take" : Str) = runF (evSs (ct n) d__law_take.body) 4 := ctOf_fn lk__law_take rfl n
theorem k__law_take (n : Nat) (x0 x1 : D) : callC (ct n) ("_law_take" : Str) [x0, x1] [] = (ct n).fn ("_law_take" : Str) [x0, x1] := callC0 (by rw [ctOf_sig]; show (TT.lookup _).map _ = _; rw [lk__law_take]; rfl) rfl (by decide)
theorem lk__law_of : TT.lookup ("_law_of" : Str) = some d__law_of := by kernel_rfl
theorem c__law_of (n : Nat) : (ct (n + 1)).fn ("_law_of" : Str) = runF (evSs (ct n) d__law_of.body) 2 := ctOf_fn lk__law_of rfl n
theorem k__law_of (n : Nat) (x0 x1 : D) : callC (ct n) ("_law_of" : Str) [x0, x1] [] = (ct n).fn ("_law_of" : Str) [x0, x1] := callC0 (by rw [ctOf_sig]; show (TT.lookup _).map _ = _; rw [lk__law_of]; rfl) rfl (by decide)
theorem lk__law_words : TT.lookup ("_law_words" : Str) = some d__law_words := by kernel_rfl
theorem c__law_words (n : Nat) : (ct (n + 1)).fn ("_law_words" : Str) = runF (evSs (ct n) d__law_words.body) 6 := ctOf_fn lk__law_words rfl n
theorem k__law_words (n : Nat) (x0 : D) : callC (ct n) ("_law_words" : Str) [x0] [] = (ct n).fn ("_law_words" : Str) [x0] := callC0 (by rw [ctOf_sig]; show (TT.lookup _).map _ = _; rw [lk__law_words]; rfl) rfl (by decide)
theorem lk__law_answer : TT.lookup ("_law_answer" : Str) = some d__law_answer := by kernel_rfl
theorem c__law_answer (n : Nat) : (ct (n + 1)).fn ("_law_answer" : Str) = runF (evSs (ct n) d__law_answer.body) 9 := ctOf_fn lk__law_answer rfl n
theorem k__law_answer (n : Nat) (x0 x1 x2 : D) : callC (ct n) ("_law_answer" : Str) [x0, x1, x2] [] = (ct n).fn ("_law_answer" : Str) [x0, x1, x2] := callC0 (by rw [ctOf_sig]; show (TT.lookup _).map _ = _; rw [lk__law_answer]; rfl) rfl (by decide)
theorem lk__law_house : TT.lookup ("_law_house" : Str) = some d__law_house := by kernel_rfl
theorem c__law_house (n : Nat) : (ct (n + 1)).fn ("_law_house" : Str) = runF (evSs (ct n) d__law_house.body) 3 := ctOf_fn lk__law_house rfl n
theorem k__law_house (n : Nat) (x0 x1 : D) : callC (ct n) ("_law_house" : Str) [x0, x1] [] = (ct n).fn ("_law_house" : Str) [x0, x1] := callC0 (by rw [ctOf_sig]; show (TT.lookup _).map _ = _; rw [lk__law_house]; rfl) rfl (by decide)
theorem lk__law_some : TT.lookup ("_law_some" : Str) = some d__law_some := by kernel_rfl
theorem c__law_some (n : Nat) : (ct (n + 1)).fn ("_law_some" : Str) = runF (evSs (ct n) d__law_some.body) 5 := ctOf_fn lk__law_some rfl n
theorem k__law_some (n : Nat) (x0 x1 x2 : D) : callC (ct n) ("_law_some" : Str) [x0, x1, x2] [] = (ct n).fn ("_law_some" : Str) [x0, x1, x2] := callC0 (by rw [ctOf_sig]; show (TT.lookup _).map _ = _; rw [lk__law_some]; rfl) rfl (by decide)
theorem lk__law_total : TT.lookup ("_law_total" : Str) = some d__law_total := by kernel_rfl
theorem c__law_total (n : Nat) : (ct (n + 1)).fn ("_law_total" : Str) = runF (evSs (ct n) d__law_total.body) 3 := ctOf_fn lk__law_total rfl n
theorem k__law_total (n : Nat) (x0 x1 : D) : callC (ct n) ("_law_total" : Str) [x0, x1] [] = (ct n).fn ("_law_total" : Str) [x0, x1] := callC0 (by rw [ctOf_sig]; show (TT.lookup _).map _ = _; rw [lk__law_total]; rfl) rfl (by decide)
theorem lk__law_right : TT.lookup ("_law_right" : Str) = some d__law_right := by kernel_rfl
theorem c__law_right (n : Nat) : (ct (n + 1)).fn ("_law_right" : Str) = runF (evSs (ct n) d__law_right.body) 14 := ctOf_fn lk__law_right rfl n
theorem k__law_right (n : Nat) (x0 x1 : D) : callC (ct n) ("_law_right" : Str) [x0, x1] [] = (ct n).fn ("_law_right" : Str) [x0, x1] := callC0 (by rw [ctOf_sig]; show (TT.lookup _).map _ = _; rw [lk__law_right]; rfl) rfl (by decide)
theorem lk_law : TT.lookup ("law" : Str) = some d_law := by kernel_rfl
theorem c_law (n : Nat) : (ct (n + 1)).fn ("law" : Str) = runF (evSs (ct n) d_law.body) 4 := ctOf_fn lk_law rfl n
theorem k_law (n : Nat) (x0 : D) : callC (ct n) ("law" : Str) [x0] [] = (ct n).fn ("law" : Str) [x0] := callC0 (by rw [ctOf_sig]; show (TT.lookup _).map _ = _; rw [lk_law]; rfl) rfl (by decide)

theorem s_is_whole (n : Nat) (i : Int) : (ct (n + 1)).fn ("is_whole" : Str) [.int i] = M.pure (.bl true) := by
  rw [c_is_whole]
  rfl
theorem s_is_between (n : Nat) (v a b : Int) : (ct (n + 2)).fn ("is_between" : Str) [.int v, .int a, .int b] = M.pure (.bl (decide (a ≤ v) && decide (v ≤ b))) := by
  rw [c_is_between]
  simp only [d_is_between, k_is_whole, s_is_whole, evSs, evS, evE, evEs, evI, evB, evO, runF, seqF, ifF, evSet, tst, pb, ofS, grdT, drf_tup, drf_lst, drf_flst, drf_int, drf_str, drf_bl, drf_non, etaP, getV, getB, setV, dropS, slot0, List.getElem?_cons_zero, List.getElem?_cons_succ, List.map_cons, List.map_nil, List.length_cons, List.length_nil, List.set_cons_zero, List.set_cons_succ, List.cons_append, List.nil_append, List.replicate, asBl, notD, evTp, evTps, bLen, lenD, bTuple, bList, seqOf, itO_l, itO_t, itO_f, itO_d, valsOf, itmsOf, cEq_int, cNe_int, cLe_int, cLt_int, cGt_int, cGe_int, binD, addD, subD, bltD, isTy, D.ty, xi_tup, xi_lst, xi_flst, seqOf, asInt, if_true, if_false, Bool.false_eq_true, List.zip_nil_left, List.zip_nil_right, List.zip_cons_cons, decide_true, decide_false, Bool.not_true, Bool.not_false, Bool.and_self, Bool.true_and, Bool.and_true, Bool.or_false, Bool.false_or, sz0, sz1, sz2, sz3, sz4, sz8, tyc_tup, mthT_tup, mthD]
  cases decide (a ≤ v) <;> cases decide (v ≤ b) <;> rfl
theorem s_is_tuple_of (n : Nat) (l : List D) (k : Int) : (ct (n + 1)).fn ("is_tuple_of" : Str) [.tup l, .int k] = M.pure (.bl (decide ((l.length : Int) = k))) := by
  rw [c_is_tuple_of]
  simp only [d_is_tuple_of, evSs, evS, evE, evEs, evI, evB, evO, runF, seqF, ifF, evSet, tst, pb, ofS, grdT, drf_tup, drf_lst, drf_flst, drf_int, drf_str, drf_bl, drf_non, etaP, getV, getB, setV, dropS, slot0, List.getElem?_cons_zero, List.getElem?_cons_succ, List.map_cons, List.map_nil, List.length_cons, List.length_nil, List.set_cons_zero, List.set_cons_succ, List.cons_append, List.nil_append, List.replicate, asBl, notD, evTp, evTps, bLen, lenD, bTuple, bList, seqOf, itO_l, itO_t, itO_f, itO_d, valsOf, itmsOf, cEq_int, cNe_int, cLe_int, cLt_int, cGt_int, cGe_int, binD, addD, subD, bltD, isTy, D.ty, xi_tup, xi_lst, xi_flst, seqOf, asInt, if_true, if_false, Bool.false_eq_true, List.zip_nil_left, List.zip_nil_right, List.zip_cons_cons, decide_true, decide_false, Bool.not_true, Bool.not_false, Bool.and_self, Bool.true_and, Bool.and_true, Bool.or_false, Bool.false_or, sz0, sz1, sz2, sz3, sz4, sz8, tyc_tup, mthT_tup, mthD]
  rfl
theorem s_is_row (n : Nat) (l : List D) (a b : Int) : (ct (n + 1)).fn ("is_row" : Str) [.tup l, .int a, .int b] = M.pure (.bl (decide (a ≤ (l.length : Int)) && decide ((l.length : Int) ≤ b))) := by
  rw [c_is_row]
  simp only [d_is_row, evSs, evS, evE, evEs, evI, evB, evO, runF, seqF, ifF, evSet, tst, pb, ofS, grdT, drf_tup, drf_lst, drf_flst, drf_int, drf_str, drf_bl, drf_non, etaP, getV, getB, setV, dropS, slot0, List.getElem?_cons_zero, List.getElem?_cons_succ, List.map_cons, List.map_nil, List.length_cons, List.length_nil, List.set_cons_zero, List.set_cons_succ, List.cons_append, List.nil_append, List.replicate, asBl, notD, evTp, evTps, bLen, lenD, bTuple, bList, seqOf, itO_l, itO_t, itO_f, itO_d, valsOf, itmsOf, cEq_int, cNe_int, cLe_int, cLt_int, cGt_int, cGe_int, binD, addD, subD, bltD, isTy, D.ty, xi_tup, xi_lst, xi_flst, seqOf, asInt, if_true, if_false, Bool.false_eq_true, List.zip_nil_left, List.zip_nil_right, List.zip_cons_cons, decide_true, decide_false, Bool.not_true, Bool.not_false, Bool.and_self, Bool.true_and, Bool.and_true, Bool.or_false, Bool.false_or, sz0, sz1, sz2, sz3, sz4, sz8, tyc_tup, mthT_tup, mthD]
  cases decide (a ≤ (l.length : Int)) <;> cases decide ((l.length : Int) ≤ b) <;> rfl
theorem s_unlike_at (n : Nat) (u v : List Int) (hu : u.length ≤ sizeLine) : (ct (n + 1)).fn ("unlike_at" : Str) [dW u, dW v] = M.pure (.int (off u v)) := by
  rw [c_unlike_at]
  simp only [d_unlike_at, evSs, evS, evE, evEs, evI, evB, evO, runF, seqF, ifF, evSet, tst, pb, ofS, grdT, drf_tup, drf_lst, drf_flst, drf_int, drf_str, drf_bl, drf_non, etaP, getV, getB, setV, dropS, slot0, List.getElem?_cons_zero, List.getElem?_cons_succ, List.map_cons, List.map_nil, List.length_cons, List.length_nil, List.set_cons_zero, List.set_cons_succ, List.cons_append, List.nil_append, List.replicate, asBl, notD, evTp, evTps, bLen, lenD, bTuple, bList, seqOf, itO_l, itO_t, itO_f, itO_d, valsOf, itmsOf, cEq_int, cNe_int, cLe_int, cLt_int, cGt_int, cGe_int, binD, addD, subD, bltD, isTy, D.ty, xi_tup, xi_lst, xi_flst, seqOf, asInt, if_true, if_false, Bool.false_eq_true, List.zip_nil_left, List.zip_nil_right, List.zip_cons_cons, decide_true, decide_false, Bool.not_true, Bool.not_false, Bool.and_self, Bool.true_and, Bool.and_true, Bool.or_false, Bool.false_or, sz0, sz1, sz2, sz3, sz4, sz8, tyc_tup, mthT_tup, mthD]
  rw [lc_map (l := u.zip v) (inj := fun p => .tup [.int p.1, .int p.2]) (p := fun p => !decide (p.1 = p.2)) (g := fun _ => .int 1) (by simp only [evSs, evS, evE, evEs, evI, evB, evO, runF, seqF, ifF, evSet, tst, pb, ofS, grdT, drf_tup, drf_lst, drf_flst, drf_int, drf_str, drf_bl, drf_non, etaP, getV, getB, setV, dropS, slot0, List.getElem?_cons_zero, List.getElem?_cons_succ, List.map_cons, List.map_nil, List.length_cons, List.length_nil, List.set_cons_zero, List.set_cons_succ, List.cons_append, List.nil_append, List.replicate, asBl, notD, evTp, evTps, bLen, lenD, bTuple, bList, seqOf, itO_l, itO_t, itO_f, itO_d, valsOf, itmsOf, cEq_int, cNe_int, cLe_int, cLt_int, cGt_int, cGe_int, binD, addD, subD, bltD, isTy, D.ty, xi_tup, xi_lst, xi_flst, seqOf, asInt, if_true, if_false, Bool.false_eq_true, List.zip_nil_left, List.zip_nil_right, List.zip_cons_cons, decide_true, decide_false, Bool.not_true, Bool.not_false, Bool.and_self, Bool.true_and, Bool.and_true, Bool.or_false, Bool.false_or, sz0, sz1, sz2, sz3, sz4, sz8, tyc_tup, mthT_tup, mthD, dW, zipS, zipD_ints]) rfl (fun p _ => ?_) (by rw [List.length_zip]; omega)]
  · simp only [evSs, evS, evE, evEs, evI, evB, evO, runF, seqF, ifF, evSet, tst, pb, ofS, grdT, drf_tup, drf_lst, drf_flst, drf_int, drf_str, drf_bl, drf_non, etaP, getV, getB, setV, dropS, slot0, List.getElem?_cons_zero, List.getElem?_cons_succ, List.map_cons, List.map_nil, List.length_cons, List.length_nil, List.set_cons_zero, List.set_cons_succ, List.cons_append, List.nil_append, List.replicate, asBl, notD, evTp, evTps, bLen, lenD, bTuple, bList, seqOf, itO_l, itO_t, itO_f, itO_d, valsOf, itmsOf, cEq_int, cNe_int, cLe_int, cLt_int, cGt_int, cGe_int, binD, addD, subD, bltD, isTy, D.ty, xi_tup, xi_lst, xi_flst, seqOf, asInt, if_true, if_false, Bool.false_eq_true, List.zip_nil_left, List.zip_nil_right, List.zip_cons_cons, decide_true, decide_false, Bool.not_true, Bool.not_false, Bool.and_self, Bool.true_and, Bool.and_true, Bool.or_false, Bool.false_or, sz0, sz1, sz2, sz3, sz4, sz8, tyc_tup, mthT_tup, mthD, List.length_map]
    rfl
  · unfold compF
    simp only [evSs, evS, evE, evEs, evI, evB, evO, runF, seqF, ifF, evSet, tst, pb, ofS, grdT, drf_tup, drf_lst, drf_flst, drf_int, drf_str, drf_bl, drf_non, etaP, getV, getB, setV, dropS, slot0, List.getElem?_cons_zero, List.getElem?_cons_succ, List.map_cons, List.map_nil, List.length_cons, List.length_nil, List.set_cons_zero, List.set_cons_succ, List.cons_append, List.nil_append, List.replicate, asBl, notD, evTp, evTps, bLen, lenD, bTuple, bList, seqOf, itO_l, itO_t, itO_f, itO_d, valsOf, itmsOf, cEq_int, cNe_int, cLe_int, cLt_int, cGt_int, cGe_int, binD, addD, subD, bltD, isTy, D.ty, xi_tup, xi_lst, xi_flst, seqOf, asInt, if_true, if_false, Bool.false_eq_true, List.zip_nil_left, List.zip_nil_right, List.zip_cons_cons, decide_true, decide_false, Bool.not_true, Bool.not_false, Bool.and_self, Bool.true_and, Bool.and_true, Bool.or_false, Bool.false_or, sz0, sz1, sz2, sz3, sz4, sz8, tyc_tup, mthT_tup, mthD]
    cases decide (p.1 = p.2) <;> rfl
theorem s_is_house (n : Nat) (a b : Int) (h : okH a b) : (ct (n + 3)).fn ("is_house" : Str) [dH a b] = M.pure (.bl true) := by
  rw [c_is_house]
  have g1 : (ct (n + 2)).glob ("FEWEST" : Str) = some (.int 2) := by rw [ctOf_glob]; rfl
  have g2 : (ct (n + 2)).glob ("MOST" : Str) = some (.int 4) := by rw [ctOf_glob]; rfl
  obtain ⟨h1, h2, h3, h4⟩ := h
  simp only [d_is_house, dH, k_is_tuple_of, s_is_tuple_of, evSs, evS, evE, evEs, evI, evB, evO, runF, seqF, ifF, evSet, tst, pb, ofS, grdT, drf_tup, drf_lst, drf_flst, drf_int, drf_str, drf_bl, drf_non, etaP, getV, getB, setV, dropS, slot0, List.getElem?_cons_zero, List.getElem?_cons_succ, List.map_cons, List.map_nil, List.length_cons, List.length_nil, List.set_cons_zero, List.set_cons_succ, List.cons_append, List.nil_append, List.replicate, asBl, notD, evTp, evTps, bLen, lenD, bTuple, bList, seqOf, itO_l, itO_t, itO_f, itO_d, valsOf, itmsOf, cEq_int, cNe_int, cLe_int, cLt_int, cGt_int, cGe_int, binD, addD, subD, bltD, isTy, D.ty, xi_tup, xi_lst, xi_flst, seqOf, asInt, if_true, if_false, Bool.false_eq_true, List.zip_nil_left, List.zip_nil_right, List.zip_cons_cons, decide_true, decide_false, Bool.not_true, Bool.not_false, Bool.and_self, Bool.true_and, Bool.and_true, Bool.or_false, Bool.false_or, sz0, sz1, sz2, sz3, sz4, sz8, tyc_tup, mthT_tup, mthD]
  rw [lc_map (l := [a, b]) (inj := .int) (p := fun _ => true) (g := fun _ => .bl true) rfl rfl (fun p hp => ?_) (by show 2 ≤ sizeLine; decide)]
  · rfl
  · unfold compF
    simp only [k_is_between, s_is_between, g1, g2, evSs, evS, evE, evEs, evI, evB, evO, runF, seqF, ifF, evSet, tst, pb, ofS, grdT, drf_tup, drf_lst, drf_flst, drf_int, drf_str, drf_bl, drf_non, etaP, getV, getB, setV, dropS, slot0, List.getElem?_cons_zero, List.getElem?_cons_succ, List.map_cons, List.map_nil, List.length_cons, List.length_nil, List.set_cons_zero, List.set_cons_succ, List.cons_append, List.nil_append, List.replicate, asBl, notD, evTp, evTps, bLen, lenD, bTuple, bList, seqOf, itO_l, itO_t, itO_f, itO_d, valsOf, itmsOf, cEq_int, cNe_int, cLe_int, cLt_int, cGt_int, cGe_int, binD, addD, subD, bltD, isTy, D.ty, xi_tup, xi_lst, xi_flst, seqOf, asInt, if_true, if_false, Bool.false_eq_true, List.zip_nil_left, List.zip_nil_right, List.zip_cons_cons, decide_true, decide_false, Bool.not_true, Bool.not_false, Bool.and_self, Bool.true_and, Bool.and_true, Bool.or_false, Bool.false_or, sz0, sz1, sz2, sz3, sz4, sz8, tyc_tup, mthT_tup, mthD]
    simp only [List.mem_cons, List.not_mem_nil, or_false] at hp
    rcases hp with rfl | rfl
    · rw [decide_eq_true h1, decide_eq_true h2]
      rfl
    · rw [decide_eq_true h3, decide_eq_true h4]
      rfl
theorem s_check_house (n : Nat) (a b : Int) (h : okH a b) : (ct (n + 4)).fn ("check_house" : Str) [dH a b] = M.pure .non := by
  rw [c_check_house]
  simp only [d_check_house, k_is_house, s_is_house _ _ _ h, evSs, evS, evE, evEs, evI, evB, evO, runF, seqF, ifF, evSet, tst, pb, ofS, grdT, drf_tup, drf_lst, drf_flst, drf_int, drf_str, drf_bl, drf_non, etaP, getV, getB, setV, dropS, slot0, List.getElem?_cons_zero, List.getElem?_cons_succ, List.map_cons, List.map_nil, List.length_cons, List.length_nil, List.set_cons_zero, List.set_cons_succ, List.cons_append, List.nil_append, List.replicate, asBl, notD, evTp, evTps, bLen, lenD, bTuple, bList, seqOf, itO_l, itO_t, itO_f, itO_d, valsOf, itmsOf, cEq_int, cNe_int, cLe_int, cLt_int, cGt_int, cGe_int, binD, addD, subD, bltD, isTy, D.ty, xi_tup, xi_lst, xi_flst, seqOf, asInt, if_true, if_false, Bool.false_eq_true, List.zip_nil_left, List.zip_nil_right, List.zip_cons_cons, decide_true, decide_false, Bool.not_true, Bool.not_false, Bool.and_self, Bool.true_and, Bool.and_true, Bool.or_false, Bool.false_or, sz0, sz1, sz2, sz3, sz4, sz8, tyc_tup, mthT_tup, mthD]
theorem s_is_word (n : Nat) (a b : Int) (w : List Int) (h : isW a b w) (k : okH a b) : (ct (n + 3)).fn ("is_word" : Str) [dH a b, dW w] = M.pure (.bl true) := by
  rw [c_is_word]
  have i0 : atI [.int a, .int b] 0 = some (D.int a) := rfl
  have i1 : atI [.int a, .int b] 1 = some (D.int b) := rfl
  simp only [d_is_word, dH, dW, i0, k_is_tuple_of, s_is_tuple_of, evSs, evS, evE, evEs, evI, evB, evO, runF, seqF, ifF, evSet, tst, pb, ofS, grdT, drf_tup, drf_lst, drf_flst, drf_int, drf_str, drf_bl, drf_non, etaP, getV, getB, setV, dropS, slot0, List.getElem?_cons_zero, List.getElem?_cons_succ, List.map_cons, List.map_nil, List.length_cons, List.length_nil, List.set_cons_zero, List.set_cons_succ, List.cons_append, List.nil_append, List.replicate, asBl, notD, evTp, evTps, bLen, lenD, bTuple, bList, seqOf, itO_l, itO_t, itO_f, itO_d, valsOf, itmsOf, cEq_int, cNe_int, cLe_int, cLt_int, cGt_int, cGe_int, binD, addD, subD, bltD, isTy, D.ty, xi_tup, xi_lst, xi_flst, seqOf, asInt, if_true, if_false, Bool.false_eq_true, List.zip_nil_left, List.zip_nil_right, List.zip_cons_cons, decide_true, decide_false, Bool.not_true, Bool.not_false, Bool.and_self, Bool.true_and, Bool.and_true, Bool.or_false, Bool.false_or, sz0, sz1, sz2, sz3, sz4, sz8, tyc_tup, mthT_tup, mthD, List.length_map, decide_eq_true h.1]
  rw [lc_map (l := w) (inj := .int) (p := fun _ => true) (g := fun _ => .bl true) rfl rfl (fun p hp => ?_) (len_ok (h.len k))]
  · have e : ((w.filter fun _ => true).map fun _ => D.bl true) = (w.map fun _ => true).map .bl := by rw [List.filter_eq_self.mpr (fun _ _ => rfl), List.map_map]; rfl
    rw [e]
    simp only [evSs, evS, evE, evEs, evI, evB, evO, runF, seqF, ifF, evSet, tst, pb, ofS, grdT, drf_tup, drf_lst, drf_flst, drf_int, drf_str, drf_bl, drf_non, etaP, getV, getB, setV, dropS, slot0, List.getElem?_cons_zero, List.getElem?_cons_succ, List.map_cons, List.map_nil, List.length_cons, List.length_nil, List.set_cons_zero, List.set_cons_succ, List.cons_append, List.nil_append, List.replicate, asBl, notD, evTp, evTps, bLen, lenD, bTuple, bList, seqOf, itO_l, itO_t, itO_f, itO_d, valsOf, itmsOf, cEq_int, cNe_int, cLe_int, cLt_int, cGt_int, cGe_int, binD, addD, subD, bltD, isTy, D.ty, xi_tup, xi_lst, xi_flst, seqOf, asInt, if_true, if_false, Bool.false_eq_true, List.zip_nil_left, List.zip_nil_right, List.zip_cons_cons, decide_true, decide_false, Bool.not_true, Bool.not_false, Bool.and_self, Bool.true_and, Bool.and_true, Bool.or_false, Bool.false_or, sz0, sz1, sz2, sz3, sz4, sz8, tyc_tup, mthT_tup, mthD, all_bls]
    have e2 : ((w.map fun _ => true).all id) = true := List.all_eq_true.mpr fun x hx => by
      obtain ⟨_, _, rfl⟩ := List.mem_map.mp hx
      rfl
    rw [e2]
  · unfold compF
    simp only [i1, k_is_between, s_is_between, evSs, evS, evE, evEs, evI, evB, evO, runF, seqF, ifF, evSet, tst, pb, ofS, grdT, drf_tup, drf_lst, drf_flst, drf_int, drf_str, drf_bl, drf_non, etaP, getV, getB, setV, dropS, slot0, List.getElem?_cons_zero, List.getElem?_cons_succ, List.map_cons, List.map_nil, List.length_cons, List.length_nil, List.set_cons_zero, List.set_cons_succ, List.cons_append, List.nil_append, List.replicate, asBl, notD, evTp, evTps, bLen, lenD, bTuple, bList, seqOf, itO_l, itO_t, itO_f, itO_d, valsOf, itmsOf, cEq_int, cNe_int, cLe_int, cLt_int, cGt_int, cGe_int, binD, addD, subD, bltD, isTy, D.ty, xi_tup, xi_lst, xi_flst, seqOf, asInt, if_true, if_false, Bool.false_eq_true, List.zip_nil_left, List.zip_nil_right, List.zip_cons_cons, decide_true, decide_false, Bool.not_true, Bool.not_false, Bool.and_self, Bool.true_and, Bool.and_true, Bool.or_false, Bool.false_or, sz0, sz1, sz2, sz3, sz4, sz8, tyc_tup, mthT_tup, mthD, decide_eq_true (h.2 p hp).1, decide_eq_true (h.2 p hp).2]
theorem s_check_word (n : Nat) (a b : Int) (w : List Int) (h : isW a b w) (k : okH a b) : (ct (n + 4)).fn ("check_word" : Str) [dH a b, dW w] = M.pure .non := by
  rw [c_check_word]
  simp only [d_check_word, k_is_word, s_is_word _ _ _ _ h k, evSs, evS, evE, evEs, evI, evB, evO, runF, seqF, ifF, evSet, tst, pb, ofS, grdT, drf_tup, drf_lst, drf_flst, drf_int, drf_str, drf_bl, drf_non, etaP, getV, getB, setV, dropS, slot0, List.getElem?_cons_zero, List.getElem?_cons_succ, List.map_cons, List.map_nil, List.length_cons, List.length_nil, List.set_cons_zero, List.set_cons_succ, List.cons_append, List.nil_append, List.replicate, asBl, notD, evTp, evTps, bLen, lenD, bTuple, bList, seqOf, itO_l, itO_t, itO_f, itO_d, valsOf, itmsOf, cEq_int, cNe_int, cLe_int, cLt_int, cGt_int, cGe_int, binD, addD, subD, bltD, isTy, D.ty, xi_tup, xi_lst, xi_flst, seqOf, asInt, if_true, if_false, Bool.false_eq_true, List.zip_nil_left, List.zip_nil_right, List.zip_cons_cons, decide_true, decide_false, Bool.not_true, Bool.not_false, Bool.and_self, Bool.true_and, Bool.and_true, Bool.or_false, Bool.false_or, sz0, sz1, sz2, sz3, sz4, sz8, tyc_tup, mthT_tup, mthD]
theorem s_rights_by (n : Nat) (u v : List Int) (hu : u.length ≤ sizeLine) : (ct (n + 2)).fn ("rights_by" : Str) [dW u, dW v] = M.pure (.int ((v.length : Int) - off u v)) := by
  rw [c_rights_by]
  simp only [d_rights_by, k_unlike_at, s_unlike_at _ _ _ hu, evSs, evS, evE, evEs, evI, evB, evO, runF, seqF, ifF, evSet, tst, pb, ofS, grdT, drf_tup, drf_lst, drf_flst, drf_int, drf_str, drf_bl, drf_non, etaP, getV, getB, setV, dropS, slot0, List.getElem?_cons_zero, List.getElem?_cons_succ, List.map_cons, List.map_nil, List.length_cons, List.length_nil, List.set_cons_zero, List.set_cons_succ, List.cons_append, List.nil_append, List.replicate, asBl, notD, evTp, evTps, bLen, lenD, bTuple, bList, seqOf, itO_l, itO_t, itO_f, itO_d, valsOf, itmsOf, cEq_int, cNe_int, cLe_int, cLt_int, cGt_int, cGe_int, binD, addD, subD, bltD, isTy, D.ty, xi_tup, xi_lst, xi_flst, seqOf, asInt, if_true, if_false, Bool.false_eq_true, List.zip_nil_left, List.zip_nil_right, List.zip_cons_cons, decide_true, decide_false, Bool.not_true, Bool.not_false, Bool.and_self, Bool.true_and, Bool.and_true, Bool.or_false, Bool.false_or, sz0, sz1, sz2, sz3, sz4, sz8, tyc_tup, mthT_tup, mthD, List.length_map]
theorem s_words_by (n : Nat) (a b : Int) (h : (a, b) ∈ hs) : (ct (n + 1)).fn ("words_by" : Str) [dH a b] = M.pure (dWs (wOf a b)) := by
  rw [c_words_by]
  simp only [hs, List.mem_cons, Prod.mk.injEq, List.not_mem_nil, or_false] at h
  rcases h with ⟨rfl, rfl⟩ | ⟨rfl, rfl⟩ | ⟨rfl, rfl⟩ | ⟨rfl, rfl⟩ | ⟨rfl, rfl⟩ | ⟨rfl, rfl⟩ | ⟨rfl, rfl⟩ | ⟨rfl, rfl⟩ <;> kernel_rfl
theorem s_law_words (n : Nat) (a b : Int) (h : (a, b) ∈ hs) : (ct (n + 1)).fn ("_law_words" : Str) [dH a b] = M.pure (dWs (wOf a b)) := by
  rw [c__law_words]
  simp only [hs, List.mem_cons, Prod.mk.injEq, List.not_mem_nil, or_false] at h
  rcases h with ⟨rfl, rfl⟩ | ⟨rfl, rfl⟩ | ⟨rfl, rfl⟩ | ⟨rfl, rfl⟩ | ⟨rfl, rfl⟩ | ⟨rfl, rfl⟩ | ⟨rfl, rfl⟩ | ⟨rfl, rfl⟩ <;> kernel_rfl
section
variable {a b : Int} (hq : (a, b) ∈ hs)
include hq
end
section
variable {a b : Int} (hq : (a, b) ∈ hs)
include hq
end
/-- a def with a closure, any items -/
theorem s_first_wrong (ds : List D) (lam : List D → M D) (h : ∀ i d, ds[i]? = some d → lam [d, .tup (ds.take i)] = M.pure (.bl true)) : hfnT TT (glF gls) 100 ("first_wrong" : Str) [.tup ds] lam = M.pure .non := by
  unfold hfnT
  rw [lk_first_wrong]
  show runH _ 4 _ lam = _
  unfold runH
  simp only [d_first_wrong, enumS, evSs, evS, evE, evEs, evI, evB, evO, runF, seqF, ifF, evSet, tst, pb, ofS, grdT, drf_tup, drf_lst, drf_flst, drf_int, drf_str, drf_bl, drf_non, etaP, getV, getB, setV, dropS, slot0, List.getElem?_cons_zero, List.getElem?_cons_succ, List.map_cons, List.map_nil, List.length_cons, List.length_nil, List.set_cons_zero, List.set_cons_succ, List.cons_append, List.nil_append, List.replicate, asBl, notD, evTp, evTps, bLen, lenD, bTuple, bList, seqOf, itO_l, itO_t, itO_f, itO_d, valsOf, itmsOf, cEq_int, cNe_int, cLe_int, cLt_int, cGt_int, cGe_int, binD, addD, subD, bltD, isTy, D.ty, xi_tup, xi_lst, xi_flst, seqOf, asInt, if_true, if_false, Bool.false_eq_true, List.zip_nil_left, List.zip_nil_right, List.zip_cons_cons, decide_true, decide_false, Bool.not_true, Bool.not_false, Bool.and_self, Bool.true_and, Bool.and_true, Bool.or_false, Bool.false_or, sz0, sz1, sz2, sz3, sz4, sz8, tyc_tup, mthT_tup, mthD]
  have lp := loop_ok (t := .tp [.nm 2, .nm 3]) (g := fun r => evSs { fn := fun _ _ => stk, sig := fun _ => none, glob := glF gls, wf := 100, clo := lam } [.ite (.not (.callL 1 [.loc 3, .sli (.bor 0) none (some (.bor 2))])) [.ret (.loc 2)] []] r)
    (fun i => match i with
      | 0 => [.val (.tup ds), .clo, .no, .no]
      | i + 1 => [.val (.tup ds), .clo, .val (.int (i : Nat)), .val ((ds[i]?).getD .non)]) (ds := enumD ds) (fun i d hd => ?_)
  · simp only [evSs, evS, evE, evEs, evI, evB, evO, runF, seqF, ifF, evSet, tst, pb, ofS, grdT, drf_tup, drf_lst, drf_flst, drf_int, drf_str, drf_bl, drf_non, etaP, getV, getB, setV, dropS, slot0, List.getElem?_cons_zero, List.getElem?_cons_succ, List.map_cons, List.map_nil, List.length_cons, List.length_nil, List.set_cons_zero, List.set_cons_succ, List.cons_append, List.nil_append, List.replicate, asBl, notD, evTp, evTps, bLen, lenD, bTuple, bList, seqOf, itO_l, itO_t, itO_f, itO_d, valsOf, itmsOf, cEq_int, cNe_int, cLe_int, cLt_int, cGt_int, cGe_int, binD, addD, subD, bltD, isTy, D.ty, xi_tup, xi_lst, xi_flst, seqOf, asInt, if_true, if_false, Bool.false_eq_true, List.zip_nil_left, List.zip_nil_right, List.zip_cons_cons, decide_true, decide_false, Bool.not_true, Bool.not_false, Bool.and_self, Bool.true_and, Bool.and_true, Bool.or_false, Bool.false_or, sz0, sz1, sz2, sz3, sz4, sz8, tyc_tup, mthT_tup, mthD] at lp
    erw [lp]
    cases (enumD ds).length <;> rfl
  · obtain ⟨x, hx, rfl⟩ := enum_get hd
    have il : i < ds.length := (List.getElem?_eq_some_iff.mp hx).1
    have hc : Ev.cutD ds none (some (i : Int)) = ds.take i := by
      unfold Ev.cutD
      rw [HT.sIx_nat, HT.sIx_none, List.drop_zero, Nat.sub_zero, Nat.min_eq_left (by omega)]
    have hh := h i x hx
    cases i with
    | zero =>
      simp only [isClo, sliD, hc, hh, hx, Option.getD_some, evSs, evS, evE, evEs, evI, evB, evO, runF, seqF, ifF, evSet, tst, pb, ofS, grdT, drf_tup, drf_lst, drf_flst, drf_int, drf_str, drf_bl, drf_non, etaP, getV, getB, setV, dropS, slot0, List.getElem?_cons_zero, List.getElem?_cons_succ, List.map_cons, List.map_nil, List.length_cons, List.length_nil, List.set_cons_zero, List.set_cons_succ, List.cons_append, List.nil_append, List.replicate, asBl, notD, evTp, evTps, bLen, lenD, bTuple, bList, seqOf, itO_l, itO_t, itO_f, itO_d, valsOf, itmsOf, cEq_int, cNe_int, cLe_int, cLt_int, cGt_int, cGe_int, binD, addD, subD, bltD, isTy, D.ty, xi_tup, xi_lst, xi_flst, seqOf, asInt, if_true, if_false, Bool.false_eq_true, List.zip_nil_left, List.zip_nil_right, List.zip_cons_cons, decide_true, decide_false, Bool.not_true, Bool.not_false, Bool.and_self, Bool.true_and, Bool.and_true, Bool.or_false, Bool.false_or, sz0, sz1, sz2, sz3, sz4, sz8, tyc_tup, mthT_tup, mthD]
    | succ i =>
      simp only [isClo, sliD, hc, hh, hx, Option.getD_some, evSs, evS, evE, evEs, evI, evB, evO, runF, seqF, ifF, evSet, tst, pb, ofS, grdT, drf_tup, drf_lst, drf_flst, drf_int, drf_str, drf_bl, drf_non, etaP, getV, getB, setV, dropS, slot0, List.getElem?_cons_zero, List.getElem?_cons_succ, List.map_cons, List.map_nil, List.length_cons, List.length_nil, List.set_cons_zero, List.set_cons_succ, List.cons_append, List.nil_append, List.replicate, asBl, notD, evTp, evTps, bLen, lenD, bTuple, bList, seqOf, itO_l, itO_t, itO_f, itO_d, valsOf, itmsOf, cEq_int, cNe_int, cLe_int, cLt_int, cGt_int, cGe_int, binD, addD, subD, bltD, isTy, D.ty, xi_tup, xi_lst, xi_flst, seqOf, asInt, if_true, if_false, Bool.false_eq_true, List.zip_nil_left, List.zip_nil_right, List.zip_cons_cons, decide_true, decide_false, Bool.not_true, Bool.not_false, Bool.and_self, Bool.true_and, Bool.and_true, Bool.or_false, Bool.false_or, sz0, sz1, sz2, sz3, sz4, sz8, tyc_tup, mthT_tup, mthD]
theorem low_k {n : Nat} {f : Str} {d : FDef} {xs : List D} (h : TT.lookup f = some d) (hl : xs.length = d.ps.length) (hn : d.ps.Nodup) : callC (ct (n + 2)).low f xs [] = (ct n).fn f xs := callC0 (ps := d.ps) (by rw [low_sig]; show (TT.lookup _).map _ = _; rw [h]; rfl) hl hn
theorem hs_k {n : Nat} {f : Str} {d : FDef} (h : TT.lookup f = some d) : (ct (n + 2)).hsig f = some d.ps := by
  rw [ctOf_hsig]
  show (TT.lookup _).map _ = _
  rw [h]
  rfl
theorem call_kw {n : Nat} {f : Str} {d : FDef} {xs zs : List D} {ks : List (Str × D)} (h : TT.lookup f = some d) (hb : bindOk d.ps xs.length (ks.map (·.1)) = true) (hz : bindA d.ps xs ks = zs) : callC (ct n) f xs ks = (ct n).fn f zs := callK (ps := d.ps) (by rw [ctOf_sig]; show (TT.lookup _).map _ = _; rw [h]; rfl) hb hz



theorem s_law_takeF (n r : Nat) (A : AH) (top : Int) (h : Bg r A) (t0 : 0 < top) (t1 : top < 1073741824) : ∃ (d : Int) (A' : AH), 0 ≤ d ∧ d < top ∧ Bg r A' ∧ (∀ q, q ≠ r → A'[q]? = A[q]?) ∧ (ct (n + 1)).fn ("_law_take" : Str) [.ref r, .int top] A = .ok (.int d) A' := by
  have hl := h.lt
  obtain ⟨b0, b1, b2, hA⟩ := h
  rw [c__law_take]
  have dA : deref A (.ref r) = .lst [.int b0, .int b1, .int b2] := deref_at hA
  have sg : ∀ X : AO, (A.set r X)[r]? = some X := fun X => by rw [List.getElem?_set_self hl]
  have i0 : ∀ x y z : D, atI [x, y, z] 0 = some x := fun _ _ _ => rfl
  have i1 : ∀ x y z : D, atI [x, y, z] 1 = some y := fun _ _ _ => rfl
  have i2 : ∀ x y z : D, atI [x, y, z] 2 = some z := fun _ _ _ => rfl
  have x0 : ixN (0 + 1 + 1 + 1) 0 = some 0 := rfl
  have x1 : ixN (0 + 1 + 1 + 1) 1 = some 1 := rfl
  have x2 : ixN (0 + 1 + 1 + 1) 2 = some 2 := rfl
  by_cases hb : 0 < b0
  · have hd : bDivmod [.int b0, .int top] = some (.tup [.int (b0 / top), .int (b0 % top)]) := if_pos ⟨t0, t1⟩
    refine ⟨b0 % top, A.set r (.lst [.int (b0 / top), .int b1, .int b2]), Int.emod_nonneg _ (by omega), Int.emod_lt_of_pos _ t0, ⟨_, _, _, sg _⟩, fun q hq => List.getElem?_set_ne fun e => hq e.symm, ?_⟩
    simp only [d__law_take, evSs, evS, evE, evEs, evI, evB, evO, runF, seqF, ifF, evSet, tst, pb, ofS, grdT, drf_tup, drf_lst, drf_flst, drf_int, drf_str, drf_bl, drf_non, etaP, getV, getB, setV, dropS, slot0, List.getElem?_cons_zero, List.getElem?_cons_succ, List.map_cons, List.map_nil, List.length_cons, List.length_nil, List.set_cons_zero, List.set_cons_succ, List.cons_append, List.nil_append, List.replicate, asBl, notD, evTp, evTps, bLen, lenD, bTuple, bList, seqOf, itO_l, itO_t, itO_f, itO_d, valsOf, itmsOf, cEq_int, cNe_int, cLe_int, cLt_int, cGt_int, cGe_int, binD, addD, subD, bltD, isTy, D.ty, xi_tup, xi_lst, xi_flst, seqOf, asInt, if_true, if_false, Bool.false_eq_true, List.zip_nil_left, List.zip_nil_right, List.zip_cons_cons, decide_true, decide_false, Bool.not_true, Bool.not_false, Bool.and_self, Bool.true_and, Bool.and_true, Bool.or_false, Bool.false_or, sz0, sz1, sz2, sz3, sz4, sz8, tyc_tup, mthT_tup, mthD, M.bind, M.pure, evAsg, evTas, evQs, evQ, tqOf, okSub, setSub, calm, dA, hA, i0, x0, decide_eq_true hb, hd]
  · have e1 : mulD (.int 28657) (.int (b2 + 1)) = some (.int (28657 * (b2 + 1))) := mul_l (by decide) _
    have e2 : mulD (.int 17) (.int (b2 + 1)) = some (.int (17 * (b2 + 1))) := mul_l (by decide) _
    have e3 : ∀ i : Int, modD (.int i) (.int 2147483399) = some (.int (i % 2147483399)) := fun i => mod_p (by decide) i
    have e3' : ∀ i : Int, modD (.int i) (.int 5003) = some (.int (i % 5003)) := fun i => mod_p (by decide) i
    have e4 : ∀ i : Int, modD (.int i) (.int top) = some (.int (i % top)) := fun i => mod_p t0 i
    have e5 : ∀ i : Int, divD (.int i) (.int 613) = some (.int (i / 613)) := fun i => div_p (by decide) i
    have e7 : ∀ i j : Int, mulD (.int i) (.int (j % 5003 + 48271)) = some (.int (i * (j % 5003 + 48271))) := fun i j => mul_r (by
      have h1 := Int.emod_nonneg j (show (5003 : Int) ≠ 0 by decide)
      have h2 := Int.emod_lt_of_pos j (show (0 : Int) < 5003 by decide)
      unfold small
      rw [decide_eq_true (show (-(2 ^ 64) : Int) < j % 5003 + 48271 by omega), decide_eq_true (show (j % 5003 + 48271 : Int) < 2 ^ 64 by omega)]
      rfl) i
    generalize hs : (b1 + 28657 * (b2 + 1)) % 2147483399 = s
    refine ⟨(s * (s % 5003 + 48271) + 17 * (b2 + 1)) % 2147483399 / 613 % top, (A.set r (.lst [.int b0, .int b1, .int (b2 + 1)])).set r (.lst [.int b0, .int ((s * (s % 5003 + 48271) + 17 * (b2 + 1)) % 2147483399), .int (b2 + 1)]), Int.emod_nonneg _ (by omega), Int.emod_lt_of_pos _ t0, ⟨_, _, _, by rw [List.getElem?_set_self (by simpa using hl)]⟩, fun q hq => by rw [List.getElem?_set_ne fun e => hq e.symm, List.getElem?_set_ne fun e => hq e.symm], ?_⟩
    have dB : ∀ l : List D, deref (A.set r (.lst l)) (.ref r) = .lst l := fun l => deref_at (sg _)
    simp only [d__law_take, evSs, evS, evE, evEs, evI, evB, evO, runF, seqF, ifF, evSet, tst, pb, ofS, grdT, drf_tup, drf_lst, drf_flst, drf_int, drf_str, drf_bl, drf_non, etaP, getV, getB, setV, dropS, slot0, List.getElem?_cons_zero, List.getElem?_cons_succ, List.map_cons, List.map_nil, List.length_cons, List.length_nil, List.set_cons_zero, List.set_cons_succ, List.cons_append, List.nil_append, List.replicate, asBl, notD, evTp, evTps, bLen, lenD, bTuple, bList, seqOf, itO_l, itO_t, itO_f, itO_d, valsOf, itmsOf, cEq_int, cNe_int, cLe_int, cLt_int, cGt_int, cGe_int, binD, addD, subD, bltD, isTy, D.ty, xi_tup, xi_lst, xi_flst, seqOf, asInt, if_true, if_false, Bool.false_eq_true, List.zip_nil_left, List.zip_nil_right, List.zip_cons_cons, decide_true, decide_false, Bool.not_true, Bool.not_false, Bool.and_self, Bool.true_and, Bool.and_true, Bool.or_false, Bool.false_or, sz0, sz1, sz2, sz3, sz4, sz8, tyc_tup, mthT_tup, mthD, M.bind, M.pure, evAsg, evTas, evQs, evQ, tqOf, okSub, setSub, calm, dA, hA, sg, dB, i0, i1, i2, x0, x1, x2, decide_eq_false hb, e1, e2, e3, e3', e4, e5, e7, hs, List.set_set]
theorem s_law_take (n r : Nat) (A : AH) (top : Int) (h : Bg r A) (t0 : 0 < top) (t1 : top < 1073741824) : ∃ (d : Int) (A' : AH), 0 ≤ d ∧ d < top ∧ Bg r A' ∧ (ct (n + 1)).fn ("_law_take" : Str) [.ref r, .int top] A = .ok (.int d) A' := by
  obtain ⟨d, A', h1, h2, h3, _, h5⟩ := s_law_takeF n r A top h t0 t1
  exact ⟨d, A', h1, h2, h3, h5⟩
theorem s_law_ofF (n r : Nat) (A : AH) (l : List D) (h : Bg r A) (h0 : l ≠ []) (h1 : l.length < 1073741824) : ∃ x ∈ l, ∃ A', Bg r A' ∧ (∀ q, q ≠ r → A'[q]? = A[q]?) ∧ (ct (n + 2)).fn ("_law_of" : Str) [.ref r, .lst l] A = .ok x A' := by
  have hp : 0 < l.length := List.length_pos_iff.mpr h0
  obtain ⟨d, A', d0, d1, hb, fr, e⟩ := s_law_takeF n r A (l.length : Int) h (by omega) (by omega)
  rw [c__law_of]
  obtain ⟨k, rfl⟩ : ∃ k : Nat, d = k := ⟨d.toNat, by omega⟩
  have hk : k < l.length := by omega
  have ek : atI l (k : Int) = some l[k] := atI_nat (List.getElem?_eq_getElem hk)
  refine ⟨l[k], List.getElem_mem hk, A', hb, fr, ?_⟩
  simp only [d__law_of, k__law_take, evSs, evS, evE, evEs, evI, evB, evO, runF, seqF, ifF, evSet, tst, pb, ofS, grdT, drf_tup, drf_lst, drf_flst, drf_int, drf_str, drf_bl, drf_non, etaP, getV, getB, setV, dropS, slot0, List.getElem?_cons_zero, List.getElem?_cons_succ, List.map_cons, List.map_nil, List.length_cons, List.length_nil, List.set_cons_zero, List.set_cons_succ, List.cons_append, List.nil_append, List.replicate, asBl, notD, evTp, evTps, bLen, lenD, bTuple, bList, seqOf, itO_l, itO_t, itO_f, itO_d, valsOf, itmsOf, cEq_int, cNe_int, cLe_int, cLt_int, cGt_int, cGe_int, binD, addD, subD, bltD, isTy, D.ty, xi_tup, xi_lst, xi_flst, seqOf, asInt, if_true, if_false, Bool.false_eq_true, List.zip_nil_left, List.zip_nil_right, List.zip_cons_cons, decide_true, decide_false, Bool.not_true, Bool.not_false, Bool.and_self, Bool.true_and, Bool.and_true, Bool.or_false, Bool.false_or, sz0, sz1, sz2, sz3, sz4, sz8, tyc_tup, mthT_tup, mthD, M.bind, M.pure, e, ek]
/-- .. of a list on the heap -/
theorem s_law_ofR (n r q : Nat) (A : AH) (l : List D) (h : Bg r A) (hq : A[q]? = some (.lst l)) (hn : q ≠ r) (h0 : l ≠ []) (h1 : l.length < 1073741824) : ∃ x ∈ l, ∃ A', Bg r A' ∧ (∀ q, q ≠ r → A'[q]? = A[q]?) ∧ (ct (n + 2)).fn ("_law_of" : Str) [.ref r, .ref q] A = .ok x A' := by
  have hp : 0 < l.length := List.length_pos_iff.mpr h0
  obtain ⟨d, A', d0, d1, hb, fr, e⟩ := s_law_takeF n r A (l.length : Int) h (by omega) (by omega)
  rw [c__law_of]
  obtain ⟨k, rfl⟩ : ∃ k : Nat, d = k := ⟨d.toNat, by omega⟩
  have hk : k < l.length := by omega
  have ek : atI l (k : Int) = some l[k] := atI_nat (List.getElem?_eq_getElem hk)
  have d1 : deref A (.ref q) = .lst l := deref_at hq
  have d2 : deref A' (.ref q) = .lst l := deref_at (by rw [fr q hn]; exact hq)
  refine ⟨l[k], List.getElem_mem hk, A', hb, fr, ?_⟩
  simp only [d__law_of, k__law_take, evSs, evS, evE, evEs, evI, evB, evO, runF, seqF, ifF, evSet, tst, pb, ofS, grdT, drf_tup, drf_lst, drf_flst, drf_int, drf_str, drf_bl, drf_non, etaP, getV, getB, setV, dropS, slot0, List.getElem?_cons_zero, List.getElem?_cons_succ, List.map_cons, List.map_nil, List.length_cons, List.length_nil, List.set_cons_zero, List.set_cons_succ, List.cons_append, List.nil_append, List.replicate, asBl, notD, evTp, evTps, bLen, lenD, bTuple, bList, seqOf, itO_l, itO_t, itO_f, itO_d, valsOf, itmsOf, cEq_int, cNe_int, cLe_int, cLt_int, cGt_int, cGe_int, binD, addD, subD, bltD, isTy, D.ty, xi_tup, xi_lst, xi_flst, seqOf, asInt, if_true, if_false, Bool.false_eq_true, List.zip_nil_left, List.zip_nil_right, List.zip_cons_cons, decide_true, decide_false, Bool.not_true, Bool.not_false, Bool.and_self, Bool.true_and, Bool.and_true, Bool.or_false, Bool.false_or, sz0, sz1, sz2, sz3, sz4, sz8, tyc_tup, mthT_tup, mthD, M.bind, M.pure, d1, d2, e, ek]
theorem s_law_of (n r : Nat) (A : AH) (l : List D) (h : Bg r A) (h0 : l ≠ []) (h1 : l.length < 1073741824) : ∃ x ∈ l, ∃ A', Bg r A' ∧ (ct (n + 2)).fn ("_law_of" : Str) [.ref r, .lst l] A = .ok x A' := by
  have hp : 0 < l.length := List.length_pos_iff.mpr h0
  obtain ⟨d, A', d0, d1, hb, e⟩ := s_law_take n r A (l.length : Int) h (by omega) (by omega)
  rw [c__law_of]
  obtain ⟨k, rfl⟩ : ∃ k : Nat, d = k := ⟨d.toNat, by omega⟩
  have hk : k < l.length := by omega
  have ek : atI l (k : Int) = some l[k] := atI_nat (List.getElem?_eq_getElem hk)
  refine ⟨l[k], List.getElem_mem hk, A', hb, ?_⟩
  simp only [d__law_of, k__law_take, evSs, evS, evE, evEs, evI, evB, evO, runF, seqF, ifF, evSet, tst, pb, ofS, grdT, drf_tup, drf_lst, drf_flst, drf_int, drf_str, drf_bl, drf_non, etaP, getV, getB, setV, dropS, slot0, List.getElem?_cons_zero, List.getElem?_cons_succ, List.map_cons, List.map_nil, List.length_cons, List.length_nil, List.set_cons_zero, List.set_cons_succ, List.cons_append, List.nil_append, List.replicate, asBl, notD, evTp, evTps, bLen, lenD, bTuple, bList, seqOf, itO_l, itO_t, itO_f, itO_d, valsOf, itmsOf, cEq_int, cNe_int, cLe_int, cLt_int, cGt_int, cGe_int, binD, addD, subD, bltD, isTy, D.ty, xi_tup, xi_lst, xi_flst, seqOf, asInt, if_true, if_false, Bool.false_eq_true, List.zip_nil_left, List.zip_nil_right, List.zip_cons_cons, decide_true, decide_false, Bool.not_true, Bool.not_false, Bool.and_self, Bool.true_and, Bool.and_true, Bool.or_false, Bool.false_or, sz0, sz1, sz2, sz3, sz4, sz8, tyc_tup, mthT_tup, mthD, M.bind, M.pure, e, ek]
def houseL : List D := hs.map fun q => dH q.1 q.2
def ruleL : List D := [.str (rS 0), .str (rS 1), .str (rS 2)]
theorem s_law_house (n r : Nat) (A : AH) (h : Bg r A) (most : Nat) (m1 : most ∈ ([2, 3, 4, 5, 6, 7, 8] : List Nat)) : ∃ q ∈ hs, ∃ (k : Nat) (A' : AH), Bg r A' ∧ (ct (n + 3)).fn ("_law_house" : Str) [.ref r, .int (most : Int)] A = .ok (.tup [dH q.1 q.2, .str (rS k)]) A' := by
  have sl : sliD (.lst houseL) none (some (most : Int)) = some (.lst (houseL.take most)) ∧ houseL.take most ≠ [] ∧ (houseL.take most).length < 1073741824 := by
    simp only [List.mem_cons, List.not_mem_nil, or_false] at m1
    rcases m1 with rfl | rfl | rfl | rfl | rfl | rfl | rfl <;> exact ⟨rfl, by decide, by decide⟩
  obtain ⟨sl, ne, le⟩ := sl
  obtain ⟨x, hx, A1, hb, e⟩ := s_law_of n r A _ h ne le
  obtain ⟨q, hq, rfl⟩ := List.mem_map.mp (List.mem_of_mem_take hx)
  obtain ⟨y, hy, A2, hb2, e2⟩ := s_law_of n r A1 ruleL hb (by decide) (by decide)
  obtain ⟨k, rfl⟩ : ∃ k, y = .str (rS k) := by
    simp only [ruleL, List.mem_cons, List.not_mem_nil, or_false] at hy
    rcases hy with rfl | rfl | rfl
    · exact ⟨0, rfl⟩
    · exact ⟨1, rfl⟩
    · exact ⟨2, rfl⟩
  refine ⟨q, hq, k, A2, hb2, ?_⟩
  rw [c__law_house]
  have hL : (D.lst houseL) = .lst [.tup [.int 2, .int 2], .tup [.int 2, .int 3], .tup [.int 3, .int 2], .tup [.int 2, .int 4], .tup [.int 4, .int 2], .tup [.int 3, .int 3], .tup [.int 3, .int 4], .tup [.int 4, .int 3]] := rfl
  have rL : (D.lst ruleL) = .lst [.str "marks", .str "counts", .str "rights"] := rfl
  rw [hL] at sl
  rw [rL] at e2
  simp only [d__law_house, k__law_of, evSs, evS, evE, evEs, evI, evB, evO, runF, seqF, ifF, evSet, tst, pb, ofS, grdT, drf_tup, drf_lst, drf_flst, drf_int, drf_str, drf_bl, drf_non, etaP, getV, getB, setV, dropS, slot0, List.getElem?_cons_zero, List.getElem?_cons_succ, List.map_cons, List.map_nil, List.length_cons, List.length_nil, List.set_cons_zero, List.set_cons_succ, List.cons_append, List.nil_append, List.replicate, asBl, notD, evTp, evTps, bLen, lenD, bTuple, bList, seqOf, itO_l, itO_t, itO_f, itO_d, valsOf, itmsOf, cEq_int, cNe_int, cLe_int, cLt_int, cGt_int, cGe_int, binD, addD, subD, bltD, isTy, D.ty, xi_tup, xi_lst, xi_flst, seqOf, asInt, if_true, if_false, Bool.false_eq_true, List.zip_nil_left, List.zip_nil_right, List.zip_cons_cons, decide_true, decide_false, Bool.not_true, Bool.not_false, Bool.and_self, Bool.true_and, Bool.and_true, Bool.or_false, Bool.false_or, sz0, sz1, sz2, sz3, sz4, sz8, tyc_tup, mthT_tup, mthD, M.bind, M.pure, sl, e, e2]
theorem wide_ev (c : CT) (ρ : Ev.Env) : evE c (.bin .Mult (.bin .Mult (.bin .Mult (.bin .Mult (.bin .Mult (.bin .Pow (.int 10) (.int 64)) (.bin .Pow (.int 10) (.int 64))) (.bin .Pow (.int 10) (.int 64))) (.bin .Pow (.int 10) (.int 64))) (.bin .Pow (.int 10) (.int 64))) (.bin .Pow (.int 10) (.int 64))) ρ = M.pure (.int (10 ^ 384)) := by
  kernel_rfl
theorem pool_loop (c : CT) (d0 d1 d2 d4 : D) : ∀ (l : List Int) (s : Int) (y : Sl), (∃ d, y = .val d) ∨ y = .no → ∃ (s' : Int) (y' : Sl), loopF (.nm 3) (fun r => evSs c [.set 5 (.bin .Mod (.bin .Add (.bin .Add (.bin .Mult (.bor 5) (.int 48271)) (.bin .Mult (.bin .Mod (.bor 3) (.int 2147483399)) (.int 19))) (.int 7)) (.int 2147483399))] r) (l.map .int) [.val d0, .val d1, .val d2, y, .val d4, .val (.int s)] = M.pure (.nx [.val d0, .val d1, .val d2, y', .val d4, .val (.int s')])
  | [], s, y, _ => ⟨s, y, rfl⟩
  | i :: l, s, y, hy => by
    obtain ⟨s', y', e⟩ := pool_loop c d0 d1 d2 d4 l ((s * 48271 + i % 2147483399 * 19 + 7) % 2147483399) (.val (.int i)) (.inl ⟨_, rfl⟩)
    refine ⟨s', y', ?_⟩
    have e1 : ∀ s : Int, mulD (.int s) (.int 48271) = some (.int (s * 48271)) := fun s => mul_r (by decide) _
    have e2 : ∀ s : Int, mulD (.int s) (.int 19) = some (.int (s * 19)) := fun s => mul_r (by decide) _
    have e3 : ∀ i : Int, modD (.int i) (.int 2147483399) = some (.int (i % 2147483399)) := fun i => mod_p (by decide) i
    rw [List.map_cons, loop_cons]
    have st : ((ofO (evTp (.nm 3) (.int i) [.val d0, .val d1, .val d2, y, .val d4, .val (.int s)])).bind (fun r => evSs c [.set 5 (.bin .Mod (.bin .Add (.bin .Add (.bin .Mult (.bor 5) (.int 48271)) (.bin .Mult (.bin .Mod (.bor 3) (.int 2147483399)) (.int 19))) (.int 7)) (.int 2147483399))] r)) =
        M.pure (.nx [.val d0, .val d1, .val d2, .val (.int i), .val d4, .val (.int ((s * 48271 + i % 2147483399 * 19 + 7) % 2147483399))]) := by
      rcases hy with ⟨d, rfl⟩ | rfl <;> simp only [evSs, evS, evE, evEs, evI, evB, evO, runF, seqF, ifF, evSet, tst, pb, ofS, grdT, drf_tup, drf_lst, drf_flst, drf_int, drf_str, drf_bl, drf_non, etaP, getV, getB, setV, dropS, slot0, List.getElem?_cons_zero, List.getElem?_cons_succ, List.map_cons, List.map_nil, List.length_cons, List.length_nil, List.set_cons_zero, List.set_cons_succ, List.cons_append, List.nil_append, List.replicate, asBl, notD, evTp, evTps, bLen, lenD, bTuple, bList, seqOf, itO_l, itO_t, itO_f, itO_d, valsOf, itmsOf, cEq_int, cNe_int, cLe_int, cLt_int, cGt_int, cGe_int, binD, addD, subD, bltD, isTy, D.ty, xi_tup, xi_lst, xi_flst, seqOf, asInt, if_true, if_false, Bool.false_eq_true, List.zip_nil_left, List.zip_nil_right, List.zip_cons_cons, decide_true, decide_false, Bool.not_true, Bool.not_false, Bool.and_self, Bool.true_and, Bool.and_true, Bool.or_false, Bool.false_or, sz0, sz1, sz2, sz3, sz4, sz8, tyc_tup, mthT_tup, mthD, e1, e2, e3]
    rw [st, pb]
    exact e
theorem sli_ints (ns : List Int) (lo hi : Option Int) : ∃ l : List Int, sliD (.flst (ns.map .int)) lo hi = some (.lst (l.map .int)) := by
  refine ⟨(ns.drop (HT.sIx (ns.map D.int).length 0 lo)).take (HT.sIx (ns.map D.int).length (ns.map D.int).length hi - HT.sIx (ns.map D.int).length 0 lo), ?_⟩
  show some (D.lst (Ev.cutD (ns.map .int) lo hi)) = _
  unfold Ev.cutD
  rw [List.map_take, List.map_drop]
theorem s_law_pool (n : Nat) (A : AH) (ns : List Int) (k : Int) : ∃ x y : Int, (ct (n + 1)).fn ("_law_pool" : Str) [.flst (ns.map .int), .int k] A = .ok (.ref A.length) (A ++ [.lst [.int x, .int y, .int 0]]) := by
  rw [c__law_pool]
  have e1 : mulD (.int 977) (.int k) = some (.int (977 * k)) := mul_l (by decide) _
  have e7 : ∀ i : Int, bAbs [.int i] = some (.int (absI i)) := fun _ => rfl
  have e8 : powD (.int 10) (.int 18) = some (.int (10 ^ 18)) := rfl
  have e9 : ∀ i : Int, modD (.int i) (.int (10 ^ 384)) = some (.int (i % 10 ^ 384)) := fun i => mod_p (by decide +kernel) i
  obtain ⟨l1, ec1⟩ := sli_ints ns (some k) (some (k + 1))
  obtain ⟨l2, ec2⟩ := sli_ints ns none (some 12)
  obtain ⟨s', y', el⟩ := pool_loop (ct n) (.flst (ns.map .int)) (.int k) (.int (10 ^ 384)) (.int l1.sum) l2 (50021 + 977 * k) .no (.inr rfl)
  have es := sum_ints l1
  have ewd := wide_ev (ct n)
  simp only [evSs, evS, evE, evEs, evI, evB, evO, runF, seqF, ifF, evSet, tst, pb, ofS, grdT, drf_tup, drf_lst, drf_flst, drf_int, drf_str, drf_bl, drf_non, etaP, getV, getB, setV, dropS, slot0, List.getElem?_cons_zero, List.getElem?_cons_succ, List.map_cons, List.map_nil, List.length_cons, List.length_nil, List.set_cons_zero, List.set_cons_succ, List.cons_append, List.nil_append, List.replicate, asBl, notD, evTp, evTps, bLen, lenD, bTuple, bList, seqOf, itO_l, itO_t, itO_f, itO_d, valsOf, itmsOf, cEq_int, cNe_int, cLe_int, cLt_int, cGt_int, cGe_int, binD, addD, subD, bltD, isTy, D.ty, xi_tup, xi_lst, xi_flst, seqOf, asInt, if_true, if_false, Bool.false_eq_true, List.zip_nil_left, List.zip_nil_right, List.zip_cons_cons, decide_true, decide_false, Bool.not_true, Bool.not_false, Bool.and_self, Bool.true_and, Bool.and_true, Bool.or_false, Bool.false_or, sz0, sz1, sz2, sz3, sz4, sz8, tyc_tup, mthT_tup, mthD] at el
  generalize hw : (IE.bin .Mult (.bin .Mult (.bin .Mult (.bin .Mult (.bin .Mult (.bin .Pow (.int 10) (.int 64)) (.bin .Pow (.int 10) (.int 64))) (.bin .Pow (.int 10) (.int 64))) (.bin .Pow (.int 10) (.int 64))) (.bin .Pow (.int 10) (.int 64))) (.bin .Pow (.int 10) (.int 64))) = wd at ewd
  have eb : d__law_pool.body = [.par 4 5 (.blt .sum [.sli (.bor 0) (some (.bor 1)) (some (.bin .Add (.bor 1) (.int 1)))]) (.bin .Add (.int 50021) (.bin .Mult (.int 977) (.bor 1))),
    .set 2 wd,
    .for_ (.nm 3) (.val (.sli (.bor 0) none (some (.int 12)))) [.set 5 (.bin .Mod (.bin .Add (.bin .Add (.bin .Mult (.bor 5) (.int 48271)) (.bin .Mult (.bin .Mod (.bor 3) (.int 2147483399)) (.int 19))) (.int 7)) (.int 2147483399))],
    .ret (.newl [.ite (.or (.cmp .Lt (.bor 4) (.int 0)) (.cmp .GtE (.bor 4) (.bin .Pow (.int 10) (.int 18)))) (.bin .Mod (.blt .abs [.bor 4]) (.bor 2)) (.int 0), .loc 5, .int 0])] := by
    rw [← hw]
    rfl
  rw [eb]
  cases h1 : decide (l1.sum < 0) <;> cases h2 : decide ((10 : Int) ^ 18 ≤ l1.sum) <;>
    (apply Exists.intro
     apply Exists.intro
     simp only [evSs, evS, evE, evEs, evI, evB, evO, runF, seqF, ifF, evSet, tst, pb, ofS, grdT, drf_tup, drf_lst, drf_flst, drf_int, drf_str, drf_bl, drf_non, etaP, getV, getB, setV, dropS, slot0, List.getElem?_cons_zero, List.getElem?_cons_succ, List.map_cons, List.map_nil, List.length_cons, List.length_nil, List.set_cons_zero, List.set_cons_succ, List.cons_append, List.nil_append, List.replicate, asBl, notD, evTp, evTps, bLen, lenD, bTuple, bList, seqOf, itO_l, itO_t, itO_f, itO_d, valsOf, itmsOf, cEq_int, cNe_int, cLe_int, cLt_int, cGt_int, cGe_int, binD, addD, subD, bltD, isTy, D.ty, xi_tup, xi_lst, xi_flst, seqOf, asInt, if_true, if_false, Bool.false_eq_true, List.zip_nil_left, List.zip_nil_right, List.zip_cons_cons, decide_true, decide_false, Bool.not_true, Bool.not_false, Bool.and_self, Bool.true_and, Bool.and_true, Bool.or_false, Bool.false_or, sz0, sz1, sz2, sz3, sz4, sz8, tyc_tup, mthT_tup, mthD, evPar, itOf, e1, ec1, ec2, es, ewd, el, e7, e8, e9, h1, h2]
     rfl)
section
variable {a b : Int} (hq : (a, b) ∈ hs)
include hq
theorem of_wF (n r : Nat) (A : AH) (h : Bg r A) : ∃ w ∈ wOf a b, ∃ A', Bg r A' ∧ (∀ q, q ≠ r → A'[q]? = A[q]?) ∧ (ct (n + 2)).fn ("_law_of" : Str) [.ref r, dWs (wOf a b)] A = .ok (dW w) A' := by
  obtain ⟨x, hx, A', hb, fr, e⟩ := s_law_ofF n r A _ h (wne hq) (wlen hq)
  obtain ⟨w, hw, rfl⟩ := List.mem_map.mp hx
  exact ⟨w, hw, A', hb, fr, e⟩
theorem of_w (n r : Nat) (A : AH) (h : Bg r A) : ∃ w ∈ wOf a b, ∃ A', Bg r A' ∧ (ct (n + 2)).fn ("_law_of" : Str) [.ref r, dWs (wOf a b)] A = .ok (dW w) A' := by
  obtain ⟨x, hx, A', hb, e⟩ := s_law_of n r A _ h (wne hq) (wlen hq)
  obtain ⟨w, hw, rfl⟩ := List.mem_map.mp hx
  exact ⟨w, hw, A', hb, e⟩
end

end K46
end
section
set_option maxHeartbeats 4000000
namespace K46
open PySem PySem.Spec PyProof.Rows L2 Ev
/-- the law's own answer (k40 ..) -/
theorem atI_bl (l : List Bool) (i : Nat) (h : i < l.length) : atI (l.map D.bl) (i : Int) = some (.bl (l.getD i false)) := atI_nat (by
  rw [List.getElem?_map, List.getElem?_eq_getElem h]
  simp [List.getD_eq_getElem?_getD, List.getElem?_eq_getElem h])
def laBd : List IS := [.app 5 (.ite (.idx (.bor 3) (.bor 6)) (.int 2) (.blt .int [.cmp .In (.idx (.bor 1) (.bor 6)) (.bor 4)])),
 .ite (.and (.not (.idx (.bor 3) (.bor 6))) (.cmp .In (.idx (.bor 1) (.bor 6)) (.bor 4))) [.rem 4 (.idx (.bor 1) (.bor 6))] []]
theorem la_step (c : CT) (rl dw : D) (g : List Int) (rt : List Bool) (u fo : List Int) (i : Nat) (y6 : Sl) (h6 : vN y6) (h1 : i < g.length) (h2 : i < rt.length) (hl : fo.length ≤ 8) :
    ((ofO (evTp (.nm 6) (.int (i : Nat)) [.val rl, .val (dW g), .val dw, .val (.lst (rt.map .bl)), .own (u.map .int), .own (fo.map .int), y6, .no, .no])).bind fun r => evSs c laBd r) =
      M.pure (.nx [.val rl, .val (dW g), .val dw, .val (.lst (rt.map .bl)), .own ((if rt.getD i false then u else if u.any (fun z => z == g.getD i 0) then rem1 (g.getD i 0) u else u).map .int), .own ((fo ++ [if rt.getD i false then 2 else if u.any (fun z => z == g.getD i 0) then 1 else 0]).map .int), .val (.int (i : Nat)), .no, .no]) := by
  have oa : ∀ k : Int, opApp (fo.map .int) (.int k) = some ((fo ++ [k]).map .int) := fun k => by
    unfold opApp
    rw [if_pos (by rw [List.length_map]; exact Nat.lt_of_lt_of_le (show fo.length < 9 by omega) (by decide)), List.map_append]
    rfl
  have a1 := getD_int g i h1
  have a2 := atI_bl rt i h2
  have b1 : bInt [.bl true] = some (.int 1) := rfl
  have b0 : bInt [.bl false] = some (.int 0) := rfl
  have ev : evTp (.nm 6) (.int (i : Nat)) [.val rl, .val (dW g), .val dw, .val (.lst (rt.map .bl)), .own (u.map .int), .own (fo.map .int), y6, .no, .no] = some [.val rl, .val (dW g), .val dw, .val (.lst (rt.map .bl)), .own (u.map .int), .own (fo.map .int), .val (.int (i : Nat)), .no, .no] := by
    rcases h6 with rfl | ⟨d, rfl⟩ <;> rfl
  rw [ev, ofS, pb]
  have gW : (dW g) = .tup (g.map .int) := rfl
  rw [gW]
  cases c1 : rt.getD i false with
  | true =>
    rw [c1] at a2
    simp only [laBd, evOwn, ownAt, oa, a1, a2, evSs, evS, evE, evEs, evI, evB, evO, runF, seqF, ifF, evSet, tst, pb, ofS, grdT, drf_tup, drf_lst, drf_flst, drf_int, drf_str, drf_bl, drf_non, etaP, getV, getB, setV, dropS, slot0, List.getElem?_cons_zero, List.getElem?_cons_succ, List.map_cons, List.map_nil, List.length_cons, List.length_nil, List.set_cons_zero, List.set_cons_succ, List.cons_append, List.nil_append, List.replicate, asBl, notD, evTp, evTps, bLen, lenD, bTuple, bList, seqOf, itO_l, itO_t, itO_f, itO_d, valsOf, itmsOf, cEq_int, cNe_int, cLe_int, cLt_int, cGt_int, cGe_int, binD, addD, subD, bltD, isTy, D.ty, xi_tup, xi_lst, xi_flst, seqOf, asInt, if_true, if_false, Bool.false_eq_true, List.zip_nil_left, List.zip_nil_right, List.zip_cons_cons, decide_true, decide_false, Bool.not_true, Bool.not_false, Bool.and_self, Bool.true_and, Bool.and_true, Bool.or_false, Bool.false_or, sz0, sz1, sz2, sz3, sz4, sz8, tyc_tup, mthT_tup, mthD]
  | false =>
    rw [c1] at a2
    cases c2 : u.any (fun z => z == g.getD i 0) with
    | true =>
      have er := rem_ints (g.getD i 0) u c2
      simp only [laBd, evOwn, ownAt, oa, a1, a2, in_ints, c2, er, b1, evSs, evS, evE, evEs, evI, evB, evO, runF, seqF, ifF, evSet, tst, pb, ofS, grdT, drf_tup, drf_lst, drf_flst, drf_int, drf_str, drf_bl, drf_non, etaP, getV, getB, setV, dropS, slot0, List.getElem?_cons_zero, List.getElem?_cons_succ, List.map_cons, List.map_nil, List.length_cons, List.length_nil, List.set_cons_zero, List.set_cons_succ, List.cons_append, List.nil_append, List.replicate, asBl, notD, evTp, evTps, bLen, lenD, bTuple, bList, seqOf, itO_l, itO_t, itO_f, itO_d, valsOf, itmsOf, cEq_int, cNe_int, cLe_int, cLt_int, cGt_int, cGe_int, binD, addD, subD, bltD, isTy, D.ty, xi_tup, xi_lst, xi_flst, seqOf, asInt, if_true, if_false, Bool.false_eq_true, List.zip_nil_left, List.zip_nil_right, List.zip_cons_cons, decide_true, decide_false, Bool.not_true, Bool.not_false, Bool.and_self, Bool.true_and, Bool.and_true, Bool.or_false, Bool.false_or, sz0, sz1, sz2, sz3, sz4, sz8, tyc_tup, mthT_tup, mthD]
    | false => simp only [laBd, evOwn, ownAt, oa, a1, a2, in_ints, c2, b0, evSs, evS, evE, evEs, evI, evB, evO, runF, seqF, ifF, evSet, tst, pb, ofS, grdT, drf_tup, drf_lst, drf_flst, drf_int, drf_str, drf_bl, drf_non, etaP, getV, getB, setV, dropS, slot0, List.getElem?_cons_zero, List.getElem?_cons_succ, List.map_cons, List.map_nil, List.length_cons, List.length_nil, List.set_cons_zero, List.set_cons_succ, List.cons_append, List.nil_append, List.replicate, asBl, notD, evTp, evTps, bLen, lenD, bTuple, bList, seqOf, itO_l, itO_t, itO_f, itO_d, valsOf, itmsOf, cEq_int, cNe_int, cLe_int, cLt_int, cGt_int, cGe_int, binD, addD, subD, bltD, isTy, D.ty, xi_tup, xi_lst, xi_flst, seqOf, asInt, if_true, if_false, Bool.false_eq_true, List.zip_nil_left, List.zip_nil_right, List.zip_cons_cons, decide_true, decide_false, Bool.not_true, Bool.not_false, Bool.and_self, Bool.true_and, Bool.and_true, Bool.or_false, Bool.false_or, sz0, sz1, sz2, sz3, sz4, sz8, tyc_tup, mthT_tup, mthD]
theorem la_loop (c : CT) (rl dw : D) (g : List Int) (rt : List Bool) (h2 : rt.length = g.length) : ∀ (n i : Nat) (u fo : List Int) (y6 : Sl), vN y6 → i + n = g.length → fo.length + n ≤ 8 →
    ∃ (u' : List Int) (y6' : Sl), loopF (.nm 6) (fun r => evSs c laBd r) ((List.range' i n).map fun (j : Nat) => D.int (j : Int)) [.val rl, .val (dW g), .val dw, .val (.lst (rt.map .bl)), .own (u.map .int), .own (fo.map .int), y6, .no, .no] =
      M.pure (.nx [.val rl, .val (dW g), .val dw, .val (.lst (rt.map .bl)), .own (u'.map .int), .own ((fo ++ lkM g rt n i u).map .int), y6', .no, .no])
  | 0, i, u, fo, y6, _, _, _ => ⟨u, y6, by unfold lkM; rw [List.append_nil]; rfl⟩
  | n + 1, i, u, fo, y6, h6, hi, hl => by
    obtain ⟨u', y6', e⟩ := la_loop c rl dw g rt h2 n (i + 1) (if rt.getD i false then u else if u.any (fun z => z == g.getD i 0) then rem1 (g.getD i 0) u else u) (fo ++ [if rt.getD i false then 2 else if u.any (fun z => z == g.getD i 0) then 1 else 0]) (.val (.int (i : Nat))) (.inr ⟨_, rfl⟩) (by omega) (by rw [List.length_append]; simp only [List.length_cons, List.length_nil]; omega)
    refine ⟨u', y6', ?_⟩
    have er : List.range' i (n + 1) = i :: List.range' (i + 1) n := List.range'_succ
    rw [er, List.map_cons, loop_cons, la_step c rl dw g rt u fo i y6 h6 (by omega) (by omega) (by omega), pb]
    rw [List.append_assoc] at e
    exact e
theorem cnt_L (w : List Int) (i : Int) : mCount (.lst (w.map .int)) [.int i] = some (.int ((w.count i : Nat) : Int)) := count_ints w i
theorem ty_cL (l : List D) : tyAt (mTys .count) (.lst l) = M.pure "list" := by
  funext A
  show (if "list" ∈ mTys .count then R.ok "list" A else .stuck) = _
  rw [if_pos (by decide)]
  rfl
theorem mt_cL (l : List D) (xs : List D) : mthT mCount "list" (.lst l) xs = mCount (.lst l) xs := if_pos rfl
theorem la_body : d__law_answer.body = [.set 3 (.lc (.cmp .Eq (.bor 7) (.bor 8)) [7, 8] (.tp [.nm 7, .nm 8]) (.zip (.bor 1) (.bor 2)) none),
 .new 4 (.lc (.idx (.bor 2) (.bor 6)) [6] (.nm 6) (.rng1 (.blt .len [.bor 2])) (some (.not (.idx (.bor 3) (.bor 6))))),
 .new 5 (.lst []),
 .for_ (.nm 6) (.rng1 (.blt .len [.bor 1])) laBd,
 .ite (.cmp .Eq (.bor 0) (.str "rights")) [.ret (.mth .count (.bor 5) [.int 2])] [],
 .ret (.ite (.cmp .Eq (.bor 0) (.str "marks")) (.blt .tuple [.bor 5]) (.tup [.mth .count (.bor 5) [.int 2], .mth .count (.bor 5) [.int 1]]))] := rfl
theorem rng_w (c : CT) (e : IE) (ρ : Ev.Env) (w : List Int) (hw : w.length ≤ 4) (h : evE c e ρ = M.pure (.int (w.length : Int))) : evI c (.rng1 e) ρ = M.pure ((List.range' 0 w.length).map fun (j : Nat) => D.int (j : Int)) := by
  rw [← rangeD_r]
  exact rng1_nat h (Nat.le_trans hw (by decide))
theorem getD_lt (l : List Bool) (i : Nat) (h : i < l.length) : True := True.intro
theorem s_law_answer {a b : Int} (hq : (a, b) ∈ hs) (n k : Nat) (g w : List Int) (hg : g ∈ wOf a b) (hw : w ∈ wOf a b) : (ct (n + 1)).fn ("_law_answer" : Str) [.str (rS k), dW g, dW w] = M.pure (ansD k g w) := by
  rw [c__law_answer, la_body]
  have lg := (isW_of hq hg).len (all_okH _ hq)
  have lw := (isW_of hq hw).len (all_okH _ hq)
  have eqL : g.length = w.length := by
    have h1 := (isW_of hq hg).1
    have h2 := (isW_of hq hw).1
    omega
  obtain ⟨m1, m2, m3, m4, _⟩ := mk_all hq hg hw
  refine runF_of (ρ := [.val (.str (rS k)), .val (dW g), .val (dW w), .no, .no, .no, .no, .no, .no]) rfl ?_
  have ez : zipS (dW g) (dW w) = some ((g.zip w).map fun p => .tup [.int p.1, .int p.2]) := by
    show some (zipD (g.map .int) (w.map .int)) = _
    rw [zipD_ints]
  have rl : (rtL g w).length = g.length := by unfold rtL; rw [List.length_map, List.length_zip]; omega
  have e1 : evS (ct n) (.set 3 (.lc (.cmp .Eq (.bor 7) (.bor 8)) [7, 8] (.tp [.nm 7, .nm 8]) (.zip (.bor 1) (.bor 2)) none)) [.val (.str (rS k)), .val (dW g), .val (dW w), .no, .no, .no, .no, .no, .no] = M.pure (.nx [.val (.str (rS k)), .val (dW g), .val (dW w), .val (.lst ((rtL g w).map .bl)), .no, .no, .no, .no, .no]) := by
    have e0 : evE (ct n) (.lc (.cmp .Eq (.bor 7) (.bor 8)) [7, 8] (.tp [.nm 7, .nm 8]) (.zip (.bor 1) (.bor 2)) none) [.val (.str (rS k)), .val (dW g), .val (dW w), .no, .no, .no, .no, .no, .no] = M.pure (.lst ((rtL g w).map .bl)) := by
      show evLc _ _ _ _ _ _ = _
      rw [lc_map (l := g.zip w) (inj := fun p => .tup [.int p.1, .int p.2]) (p := fun _ => true) (g := fun p => .bl (decide (p.1 = p.2))) (by simp only [evSs, evS, evE, evEs, evI, evB, evO, runF, seqF, ifF, evSet, tst, pb, ofS, grdT, drf_tup, drf_lst, drf_flst, drf_int, drf_str, drf_bl, drf_non, etaP, getV, getB, setV, dropS, slot0, List.getElem?_cons_zero, List.getElem?_cons_succ, List.map_cons, List.map_nil, List.length_cons, List.length_nil, List.set_cons_zero, List.set_cons_succ, List.cons_append, List.nil_append, List.replicate, asBl, notD, evTp, evTps, bLen, lenD, bTuple, bList, seqOf, itO_l, itO_t, itO_f, itO_d, valsOf, itmsOf, cEq_int, cNe_int, cLe_int, cLt_int, cGt_int, cGe_int, binD, addD, subD, bltD, isTy, D.ty, xi_tup, xi_lst, xi_flst, seqOf, asInt, if_true, if_false, Bool.false_eq_true, List.zip_nil_left, List.zip_nil_right, List.zip_cons_cons, decide_true, decide_false, Bool.not_true, Bool.not_false, Bool.and_self, Bool.true_and, Bool.and_true, Bool.or_false, Bool.false_or, sz0, sz1, sz2, sz3, sz4, sz8, tyc_tup, mthT_tup, mthD, ez]) rfl (fun p hp => ?_) (Nat.le_trans (show _ ≤ 4 by rw [List.length_zip]; omega) (by decide))]
      · rw [List.filter_eq_self.mpr (fun _ _ => rfl)]
        unfold rtL
        rw [List.map_map]
        rfl
      · unfold compF
        simp only [evSs, evS, evE, evEs, evI, evB, evO, runF, seqF, ifF, evSet, tst, pb, ofS, grdT, drf_tup, drf_lst, drf_flst, drf_int, drf_str, drf_bl, drf_non, etaP, getV, getB, setV, dropS, slot0, List.getElem?_cons_zero, List.getElem?_cons_succ, List.map_cons, List.map_nil, List.length_cons, List.length_nil, List.set_cons_zero, List.set_cons_succ, List.cons_append, List.nil_append, List.replicate, asBl, notD, evTp, evTps, bLen, lenD, bTuple, bList, seqOf, itO_l, itO_t, itO_f, itO_d, valsOf, itmsOf, cEq_int, cNe_int, cLe_int, cLt_int, cGt_int, cGe_int, binD, addD, subD, bltD, isTy, D.ty, xi_tup, xi_lst, xi_flst, seqOf, asInt, if_true, if_false, Bool.false_eq_true, List.zip_nil_left, List.zip_nil_right, List.zip_cons_cons, decide_true, decide_false, Bool.not_true, Bool.not_false, Bool.and_self, Bool.true_and, Bool.and_true, Bool.or_false, Bool.false_or, sz0, sz1, sz2, sz3, sz4, sz8, tyc_tup, mthT_tup, mthD]
    show evSet 3 _ _ = _
    unfold evSet
    rw [e0]
    rfl
  have e2 : evS (ct n) (.new 4 (.lc (.idx (.bor 2) (.bor 6)) [6] (.nm 6) (.rng1 (.blt .len [.bor 2])) (some (.not (.idx (.bor 3) (.bor 6)))))) [.val (.str (rS k)), .val (dW g), .val (dW w), .val (.lst ((rtL g w).map .bl)), .no, .no, .no, .no, .no] = M.pure (.nx [.val (.str (rS k)), .val (dW g), .val (dW w), .val (.lst ((rtL g w).map .bl)), .own ((unL g w).map .int), .no, .no, .no, .no]) := by
    have e0 : evE (ct n) (.lc (.idx (.bor 2) (.bor 6)) [6] (.nm 6) (.rng1 (.blt .len [.bor 2])) (some (.not (.idx (.bor 3) (.bor 6))))) [.val (.str (rS k)), .val (dW g), .val (dW w), .val (.lst ((rtL g w).map .bl)), .no, .no, .no, .no, .no] = M.pure (.lst ((unL g w).map .int)) := by
      show evLc _ _ _ _ _ _ = _
      rw [lc_map (l := List.range' 0 w.length) (inj := fun (j : Nat) => D.int (j : Int)) (p := fun j => !(rtL g w).getD j false) (g := fun j => .int (w.getD j 0)) (rng_w _ _ _ w lw (by simp only [evSs, evS, evE, evEs, evI, evB, evO, runF, seqF, ifF, evSet, tst, pb, ofS, grdT, drf_tup, drf_lst, drf_flst, drf_int, drf_str, drf_bl, drf_non, etaP, getV, getB, setV, dropS, slot0, List.getElem?_cons_zero, List.getElem?_cons_succ, List.map_cons, List.map_nil, List.length_cons, List.length_nil, List.set_cons_zero, List.set_cons_succ, List.cons_append, List.nil_append, List.replicate, asBl, notD, evTp, evTps, bLen, lenD, bTuple, bList, seqOf, itO_l, itO_t, itO_f, itO_d, valsOf, itmsOf, cEq_int, cNe_int, cLe_int, cLt_int, cGt_int, cGe_int, binD, addD, subD, bltD, isTy, D.ty, xi_tup, xi_lst, xi_flst, seqOf, asInt, if_true, if_false, Bool.false_eq_true, List.zip_nil_left, List.zip_nil_right, List.zip_cons_cons, decide_true, decide_false, Bool.not_true, Bool.not_false, Bool.and_self, Bool.true_and, Bool.and_true, Bool.or_false, Bool.false_or, sz0, sz1, sz2, sz3, sz4, sz8, tyc_tup, mthT_tup, mthD, dW, List.length_map])) rfl (fun j hj => ?_) (by rw [List.length_range']; exact Nat.le_trans lw (by decide))]
      · have : ((List.range' 0 w.length).filter fun j => !(rtL g w).getD j false).map (fun j => D.int (w.getD j 0)) = (unL g w).map .int := by
          unfold unL
          rw [List.map_map]
          rfl
        rw [this]
      · have hj' : j < w.length := by
          have := List.mem_range'_1.mp hj
          omega
        have a1 := getD_int w j hj'
        have a2 := atI_bl (rtL g w) j (by omega)
        unfold compF
        have gW : (dW w) = .tup (w.map .int) := rfl
        rw [gW]
        simp only [evSs, evS, evE, evEs, evI, evB, evO, runF, seqF, ifF, evSet, tst, pb, ofS, grdT, drf_tup, drf_lst, drf_flst, drf_int, drf_str, drf_bl, drf_non, etaP, getV, getB, setV, dropS, slot0, List.getElem?_cons_zero, List.getElem?_cons_succ, List.map_cons, List.map_nil, List.length_cons, List.length_nil, List.set_cons_zero, List.set_cons_succ, List.cons_append, List.nil_append, List.replicate, asBl, notD, evTp, evTps, bLen, lenD, bTuple, bList, seqOf, itO_l, itO_t, itO_f, itO_d, valsOf, itmsOf, cEq_int, cNe_int, cLe_int, cLt_int, cGt_int, cGe_int, binD, addD, subD, bltD, isTy, D.ty, xi_tup, xi_lst, xi_flst, seqOf, asInt, if_true, if_false, Bool.false_eq_true, List.zip_nil_left, List.zip_nil_right, List.zip_cons_cons, decide_true, decide_false, Bool.not_true, Bool.not_false, Bool.and_self, Bool.true_and, Bool.and_true, Bool.or_false, Bool.false_or, sz0, sz1, sz2, sz3, sz4, sz8, tyc_tup, mthT_tup, mthD, a1, a2]
        cases (rtL g w).getD j false <;> rfl
    show evNew 4 _ _ = _
    unfold evNew
    rw [e0]
    rfl
  have e3 : evS (ct n) (.new 5 (.lst [])) [.val (.str (rS k)), .val (dW g), .val (dW w), .val (.lst ((rtL g w).map .bl)), .own ((unL g w).map .int), .no, .no, .no, .no] = M.pure (.nx [.val (.str (rS k)), .val (dW g), .val (dW w), .val (.lst ((rtL g w).map .bl)), .own ((unL g w).map .int), .own [], .no, .no, .no]) := rfl
  obtain ⟨u', y6, e4⟩ := la_loop (ct n) (.str (rS k)) (dW w) g (rtL g w) rl g.length 0 (unL g w) [] .no (.inl rfl) (by omega) (by simp only [List.length_nil]; omega)
  have e5 : evI (ct n) (.rng1 (.blt .len [.bor 1])) [.val (.str (rS k)), .val (dW g), .val (dW w), .val (.lst ((rtL g w).map .bl)), .own ((unL g w).map .int), .own [], .no, .no, .no] = M.pure ((List.range' 0 g.length).map fun (j : Nat) => D.int (j : Int)) := rng_w _ _ _ g lg (by simp only [evSs, evS, evE, evEs, evI, evB, evO, runF, seqF, ifF, evSet, tst, pb, ofS, grdT, drf_tup, drf_lst, drf_flst, drf_int, drf_str, drf_bl, drf_non, etaP, getV, getB, setV, dropS, slot0, List.getElem?_cons_zero, List.getElem?_cons_succ, List.map_cons, List.map_nil, List.length_cons, List.length_nil, List.set_cons_zero, List.set_cons_succ, List.cons_append, List.nil_append, List.replicate, asBl, notD, evTp, evTps, bLen, lenD, bTuple, bList, seqOf, itO_l, itO_t, itO_f, itO_d, valsOf, itmsOf, cEq_int, cNe_int, cLe_int, cLt_int, cGt_int, cGe_int, binD, addD, subD, bltD, isTy, D.ty, xi_tup, xi_lst, xi_flst, seqOf, asInt, if_true, if_false, Bool.false_eq_true, List.zip_nil_left, List.zip_nil_right, List.zip_cons_cons, decide_true, decide_false, Bool.not_true, Bool.not_false, Bool.and_self, Bool.true_and, Bool.and_true, Bool.or_false, Bool.false_or, sz0, sz1, sz2, sz3, sz4, sz8, tyc_tup, mthT_tup, mthD, dW, List.length_map])
  rw [sq_nx e1, sq_nx e2, sq_nx e3, sq_nx (for_nx e5 e4)]
  have em : ([] : List Int) ++ lkM g (rtL g w) g.length 0 (unL g w) = marksP g w := m2
  rw [em]
  clear e1 e2 e3 e4 e5 em ez rl
  obtain ⟨r1, r2, r3⟩ := rule_eq k
  match k with
  | 0 =>
    have q3 : cmpD .Eq (.str (rS 0)) (.str "rights") = some false := r3
    have q1 : cmpD .Eq (.str (rS 0)) (.str "marks") = some true := r1
    simp only [q3, q1, evSs, evS, evE, evEs, evI, evB, evO, runF, seqF, ifF, evSet, tst, pb, ofS, grdT, drf_tup, drf_lst, drf_flst, drf_int, drf_str, drf_bl, drf_non, etaP, getV, getB, setV, dropS, slot0, List.getElem?_cons_zero, List.getElem?_cons_succ, List.map_cons, List.map_nil, List.length_cons, List.length_nil, List.set_cons_zero, List.set_cons_succ, List.cons_append, List.nil_append, List.replicate, asBl, notD, evTp, evTps, bLen, lenD, bTuple, bList, seqOf, itO_l, itO_t, itO_f, itO_d, valsOf, itmsOf, cEq_int, cNe_int, cLe_int, cLt_int, cGt_int, cGe_int, binD, addD, subD, bltD, isTy, D.ty, xi_tup, xi_lst, xi_flst, seqOf, asInt, if_true, if_false, Bool.false_eq_true, List.zip_nil_left, List.zip_nil_right, List.zip_cons_cons, decide_true, decide_false, Bool.not_true, Bool.not_false, Bool.and_self, Bool.true_and, Bool.and_true, Bool.or_false, Bool.false_or, sz0, sz1, sz2, sz3, sz4, sz8, tyc_tup, mthT_tup, mthD]
    rfl
  | 1 =>
    have q3 : cmpD .Eq (.str (rS 1)) (.str "rights") = some false := r3
    have q1 : cmpD .Eq (.str (rS 1)) (.str "marks") = some false := r1
    simp only [q3, q1, ty_cL, mt_cL, cnt_L, m3, m4, evSs, evS, evE, evEs, evI, evB, evO, runF, seqF, ifF, evSet, tst, pb, ofS, grdT, drf_tup, drf_lst, drf_flst, drf_int, drf_str, drf_bl, drf_non, etaP, getV, getB, setV, dropS, slot0, List.getElem?_cons_zero, List.getElem?_cons_succ, List.map_cons, List.map_nil, List.length_cons, List.length_nil, List.set_cons_zero, List.set_cons_succ, List.cons_append, List.nil_append, List.replicate, asBl, notD, evTp, evTps, bLen, lenD, bTuple, bList, seqOf, itO_l, itO_t, itO_f, itO_d, valsOf, itmsOf, cEq_int, cNe_int, cLe_int, cLt_int, cGt_int, cGe_int, binD, addD, subD, bltD, isTy, D.ty, xi_tup, xi_lst, xi_flst, seqOf, asInt, if_true, if_false, Bool.false_eq_true, List.zip_nil_left, List.zip_nil_right, List.zip_cons_cons, decide_true, decide_false, Bool.not_true, Bool.not_false, Bool.and_self, Bool.true_and, Bool.and_true, Bool.or_false, Bool.false_or, sz0, sz1, sz2, sz3, sz4, sz8, tyc_tup, mthT_tup, mthD]
    rfl
  | k + 2 =>
    have q3 : cmpD .Eq (.str (rS (k + 2))) (.str "rights") = some true := by rw [r3, decide_eq_true (show 2 ≤ k + 2 by omega)]
    simp only [q3, ty_cL, mt_cL, cnt_L, m3, evSs, evS, evE, evEs, evI, evB, evO, runF, seqF, ifF, evSet, tst, pb, ofS, grdT, drf_tup, drf_lst, drf_flst, drf_int, drf_str, drf_bl, drf_non, etaP, getV, getB, setV, dropS, slot0, List.getElem?_cons_zero, List.getElem?_cons_succ, List.map_cons, List.map_nil, List.length_cons, List.length_nil, List.set_cons_zero, List.set_cons_succ, List.cons_append, List.nil_append, List.replicate, asBl, notD, evTp, evTps, bLen, lenD, bTuple, bList, seqOf, itO_l, itO_t, itO_f, itO_d, valsOf, itmsOf, cEq_int, cNe_int, cLe_int, cLt_int, cGt_int, cGe_int, binD, addD, subD, bltD, isTy, D.ty, xi_tup, xi_lst, xi_flst, seqOf, asInt, if_true, if_false, Bool.false_eq_true, List.zip_nil_left, List.zip_nil_right, List.zip_cons_cons, decide_true, decide_false, Bool.not_true, Bool.not_false, Bool.and_self, Bool.true_and, Bool.and_true, Bool.or_false, Bool.false_or, sz0, sz1, sz2, sz3, sz4, sz8, tyc_tup, mthT_tup, mthD]
    rfl

end K46
end
section
set_option maxHeartbeats 4000000
namespace K46
open PySem PySem.Spec PyProof.Rows L2 Ev
/-- how many places all guesses have right -/
def tot (S : List (List Int)) (w : List Int) : Int := (S.map fun g => rgt g w).sum
structure isS (a b : Int) (S : List (List Int)) : Prop where
  m : ∀ g ∈ S, g ∈ wOf a b
  lo : 1 ≤ S.length
  hi : S.length ≤ 4
abbrev lgD (L : List (List (List Int) × Int)) : List D := L.map fun p => .tup [tupF p.1, .int p.2]
structure isL (a b : Int) (L : List (List (List Int) × Int)) : Prop where
  m : ∀ p ∈ L, isS a b p.1 ∧ 0 ≤ p.2 ∧ p.2 ≤ a * (p.1.length : Int)
  len : L.length ≤ 4
theorem mul_sm {a n : Int} (ha : 2 ≤ a ∧ a ≤ 4) (hn : 1 ≤ n ∧ n ≤ 4) : mulD (.int a) (.int n) = some (.int (a * n)) := by
  have h1 : a = 2 ∨ a = 3 ∨ a = 4 := by omega
  have h2 : n = 1 ∨ n = 2 ∨ n = 3 ∨ n = 4 := by omega
  rcases h1 with rfl | rfl | rfl <;> rcases h2 with rfl | rfl | rfl | rfl <;> rfl
section
variable {a b : Int} (hq : (a, b) ∈ hs)
include hq
theorem w4 {w : List Int} (h : w ∈ wOf a b) : w.length ≤ 4 := (isW_of hq h).len (all_okH _ hq)
theorem rgt_b {g w : List Int} (hg : g ∈ wOf a b) (hw : w ∈ wOf a b) : 0 ≤ rgt g w ∧ rgt g w ≤ a := by
  obtain ⟨_, _, _, _, m5, m6, m7, m8, m9⟩ := mk_all hq hg hw
  omega
theorem tot_b {w : List Int} (hw : w ∈ wOf a b) : ∀ {S : List (List Int)}, (∀ g ∈ S, g ∈ wOf a b) → 0 ≤ tot S w ∧ tot S w ≤ a * (S.length : Int)
  | [], _ => by
    show 0 ≤ (0 : Int) ∧ (0 : Int) ≤ a * (0 : Nat)
    omega
  | g :: S, h => by
    obtain ⟨h1, h2⟩ := tot_b hw fun v hv => h v (List.mem_cons_of_mem _ hv)
    obtain ⟨r1, r2⟩ := rgt_b hq (h g List.mem_cons_self) hw
    have e : tot (g :: S) w = rgt g w + tot S w := by
      show (rgt g w :: S.map fun g => rgt g w).sum = _
      rw [List.sum_cons]
      rfl
    rw [e]
    have e2 : a * ((g :: S).length : Int) = a * (S.length : Int) + a := by
      rw [List.length_cons, Int.natCast_succ, Int.mul_add, Int.mul_one]
    omega
theorem tot_63 {w : List Int} (hw : w ∈ wOf a b) {S : List (List Int)} (h : isS a b S) : 0 ≤ tot S w ∧ tot S w < 63 := by
  obtain ⟨h1, h2⟩ := tot_b hq hw h.m
  have ho : a ≤ 4 := (all_okH _ hq).2.1
  have hp : 2 ≤ a := (all_okH _ hq).1
  have h3 := h.hi
  refine ⟨h1, ?_⟩
  have : a * (S.length : Int) ≤ 4 * 4 := Int.mul_le_mul ho (by omega) (by omega) (by decide)
  omega
theorem s_total_by (n : Nat) (S : List (List Int)) (h : isS a b S) (w : List Int) (hw : w ∈ wOf a b) : (ct (n + 3)).fn ("total_by" : Str) [tupF S, dW w] = M.pure (.int (tot S w)) := by
  rw [c_total_by]
  simp only [d_total_by, evSs, evS, evE, evEs, evI, evB, evO, runF, seqF, ifF, evSet, tst, pb, ofS, grdT, drf_tup, drf_lst, drf_flst, drf_int, drf_str, drf_bl, drf_non, etaP, getV, getB, setV, dropS, slot0, List.getElem?_cons_zero, List.getElem?_cons_succ, List.map_cons, List.map_nil, List.length_cons, List.length_nil, List.set_cons_zero, List.set_cons_succ, List.cons_append, List.nil_append, List.replicate, asBl, notD, evTp, evTps, bLen, lenD, bTuple, bList, seqOf, itO_l, itO_t, itO_f, itO_d, valsOf, itmsOf, cEq_int, cNe_int, cLe_int, cLt_int, cGt_int, cGe_int, binD, addD, subD, bltD, isTy, D.ty, xi_tup, xi_lst, xi_flst, seqOf, asInt, if_true, if_false, Bool.false_eq_true, List.zip_nil_left, List.zip_nil_right, List.zip_cons_cons, decide_true, decide_false, Bool.not_true, Bool.not_false, Bool.and_self, Bool.true_and, Bool.and_true, Bool.or_false, Bool.false_or, sz0, sz1, sz2, sz3, sz4, sz8, tyc_tup, mthT_tup, mthD]
  rw [lc_map (l := S) (inj := dW) (p := fun _ => true) (g := fun g => .int (rgt g w)) (by simp only [evSs, evS, evE, evEs, evI, evB, evO, runF, seqF, ifF, evSet, tst, pb, ofS, grdT, drf_tup, drf_lst, drf_flst, drf_int, drf_str, drf_bl, drf_non, etaP, getV, getB, setV, dropS, slot0, List.getElem?_cons_zero, List.getElem?_cons_succ, List.map_cons, List.map_nil, List.length_cons, List.length_nil, List.set_cons_zero, List.set_cons_succ, List.cons_append, List.nil_append, List.replicate, asBl, notD, evTp, evTps, bLen, lenD, bTuple, bList, seqOf, itO_l, itO_t, itO_f, itO_d, valsOf, itmsOf, cEq_int, cNe_int, cLe_int, cLt_int, cGt_int, cGe_int, binD, addD, subD, bltD, isTy, D.ty, xi_tup, xi_lst, xi_flst, seqOf, asInt, if_true, if_false, Bool.false_eq_true, List.zip_nil_left, List.zip_nil_right, List.zip_cons_cons, decide_true, decide_false, Bool.not_true, Bool.not_false, Bool.and_self, Bool.true_and, Bool.and_true, Bool.or_false, Bool.false_or, sz0, sz1, sz2, sz3, sz4, sz8, tyc_tup, mthT_tup, mthD]) rfl (fun g hg => ?_) (Nat.le_trans h.hi (by decide))]
  · rw [List.filter_eq_self.mpr (fun _ _ => rfl)]
    have e : bSum [.lst (S.map fun g => D.int (rgt g w))] = some (.int (tot S w)) := by
      have := sum_ints (S.map fun g => rgt g w)
      rw [List.map_map] at this
      exact this
    simp only [e, evSs, evS, evE, evEs, evI, evB, evO, runF, seqF, ifF, evSet, tst, pb, ofS, grdT, drf_tup, drf_lst, drf_flst, drf_int, drf_str, drf_bl, drf_non, etaP, getV, getB, setV, dropS, slot0, List.getElem?_cons_zero, List.getElem?_cons_succ, List.map_cons, List.map_nil, List.length_cons, List.length_nil, List.set_cons_zero, List.set_cons_succ, List.cons_append, List.nil_append, List.replicate, asBl, notD, evTp, evTps, bLen, lenD, bTuple, bList, seqOf, itO_l, itO_t, itO_f, itO_d, valsOf, itmsOf, cEq_int, cNe_int, cLe_int, cLt_int, cGt_int, cGe_int, binD, addD, subD, bltD, isTy, D.ty, xi_tup, xi_lst, xi_flst, seqOf, asInt, if_true, if_false, Bool.false_eq_true, List.zip_nil_left, List.zip_nil_right, List.zip_cons_cons, decide_true, decide_false, Bool.not_true, Bool.not_false, Bool.and_self, Bool.true_and, Bool.and_true, Bool.or_false, Bool.false_or, sz0, sz1, sz2, sz3, sz4, sz8, tyc_tup, mthT_tup, mthD]
  · unfold compF
    simp only [k_rights_by, s_rights_by _ _ _ (len_ok (w4 hq (h.m g hg))), evSs, evS, evE, evEs, evI, evB, evO, runF, seqF, ifF, evSet, tst, pb, ofS, grdT, drf_tup, drf_lst, drf_flst, drf_int, drf_str, drf_bl, drf_non, etaP, getV, getB, setV, dropS, slot0, List.getElem?_cons_zero, List.getElem?_cons_succ, List.map_cons, List.map_nil, List.length_cons, List.length_nil, List.set_cons_zero, List.set_cons_succ, List.cons_append, List.nil_append, List.replicate, asBl, notD, evTp, evTps, bLen, lenD, bTuple, bList, seqOf, itO_l, itO_t, itO_f, itO_d, valsOf, itmsOf, cEq_int, cNe_int, cLe_int, cLt_int, cGt_int, cGe_int, binD, addD, subD, bltD, isTy, D.ty, xi_tup, xi_lst, xi_flst, seqOf, asInt, if_true, if_false, Bool.false_eq_true, List.zip_nil_left, List.zip_nil_right, List.zip_cons_cons, decide_true, decide_false, Bool.not_true, Bool.not_false, Bool.and_self, Bool.true_and, Bool.and_true, Bool.or_false, Bool.false_or, sz0, sz1, sz2, sz3, sz4, sz8, tyc_tup, mthT_tup, mthD]
    rfl
theorem s_wrong_some (n : Nat) (S : List (List Int)) (h : isS a b S) : (ct (n + 6)).fn ("wrong_some" : Str) [dH a b, tupF S] = M.pure .non := by
  rw [c_wrong_some]
  have hh : ∀ lam, (ct (n + 5)).hfn ("first_wrong" : Str) [tupF S] lam = hfnT TT (glF gls) 100 ("first_wrong" : Str) [tupF S] lam := fun _ => rfl
  have hs1 : (ct (n + 5)).hsig ("first_wrong" : Str) = some d_first_wrong.ps := hs_k (n := n + 3) lk_first_wrong
  simp only [d_wrong_some, callHC, hs1, hh, evSs, evS, evE, evEs, evI, evB, evO, runF, seqF, ifF, evSet, tst, pb, ofS, grdT, drf_tup, drf_lst, drf_flst, drf_int, drf_str, drf_bl, drf_non, etaP, getV, getB, setV, dropS, slot0, List.getElem?_cons_zero, List.getElem?_cons_succ, List.map_cons, List.map_nil, List.length_cons, List.length_nil, List.set_cons_zero, List.set_cons_succ, List.cons_append, List.nil_append, List.replicate, asBl, notD, evTp, evTps, bLen, lenD, bTuple, bList, seqOf, itO_l, itO_t, itO_f, itO_d, valsOf, itmsOf, cEq_int, cNe_int, cLe_int, cLt_int, cGt_int, cGe_int, binD, addD, subD, bltD, isTy, D.ty, xi_tup, xi_lst, xi_flst, seqOf, asInt, if_true, if_false, Bool.false_eq_true, List.zip_nil_left, List.zip_nil_right, List.zip_cons_cons, decide_true, decide_false, Bool.not_true, Bool.not_false, Bool.and_self, Bool.true_and, Bool.and_true, Bool.or_false, Bool.false_or, sz0, sz1, sz2, sz3, sz4, sz8, tyc_tup, mthT_tup, mthD]
  rw [s_first_wrong (S.map dW) _ fun i d hd => ?_]
  · rfl
  · rw [List.getElem?_map] at hd
    cases hp : S[i]? with
    | none => rw [hp] at hd; cases hd
    | some p =>
      rw [hp] at hd
      cases hd
      have hm := h.m p (List.mem_of_getElem? hp)
      have k1 : ∀ (x0 x1 : D), callC (ct (n + 5)).low ("is_word" : Str) [x0, x1] [] = (ct (n + 3)).fn ("is_word" : Str) [x0, x1] := fun x0 x1 => low_k (n := n + 3) lk_is_word rfl (by decide)
      simp only [lamOf, valO, setR, k1, s_is_word _ _ _ _ (isW_of hq hm) (all_okH _ hq), evSs, evS, evE, evEs, evI, evB, evO, runF, seqF, ifF, evSet, tst, pb, ofS, grdT, drf_tup, drf_lst, drf_flst, drf_int, drf_str, drf_bl, drf_non, etaP, getV, getB, setV, dropS, slot0, List.getElem?_cons_zero, List.getElem?_cons_succ, List.map_cons, List.map_nil, List.length_cons, List.length_nil, List.set_cons_zero, List.set_cons_succ, List.cons_append, List.nil_append, List.replicate, asBl, notD, evTp, evTps, bLen, lenD, bTuple, bList, seqOf, itO_l, itO_t, itO_f, itO_d, valsOf, itmsOf, cEq_int, cNe_int, cLe_int, cLt_int, cGt_int, cGe_int, binD, addD, subD, bltD, isTy, D.ty, xi_tup, xi_lst, xi_flst, seqOf, asInt, if_true, if_false, Bool.false_eq_true, List.zip_nil_left, List.zip_nil_right, List.zip_cons_cons, decide_true, decide_false, Bool.not_true, Bool.not_false, Bool.and_self, Bool.true_and, Bool.and_true, Bool.or_false, Bool.false_or, sz0, sz1, sz2, sz3, sz4, sz8, tyc_tup, mthT_tup, mthD]
theorem s_are_some (n : Nat) (S : List (List Int)) (h : isS a b S) : (ct (n + 7)).fn ("are_some" : Str) [dH a b, tupF S] = M.pure (.bl true) := by
  rw [c_are_some]
  have g1 : (ct (n + 6)).glob ("MOST_SOME" : Str) = some (.int 4) := by rw [ctOf_glob]; rfl
  have l0 : (S.map dW).length = S.length := List.length_map _
  have l1 : (1 : Int) ≤ (S.length : Int) := by have := h.lo; omega
  have l2 : (S.length : Int) ≤ 4 := by have := h.hi; omega
  have e1 : cmpD .Is .non .non = some true := by rfl
  simp only [d_are_some, k_is_row, s_is_row, g1, k_wrong_some, s_wrong_some hq _ _ h, l0, decide_eq_true l1, decide_eq_true l2, e1, evSs, evS, evE, evEs, evI, evB, evO, runF, seqF, ifF, evSet, tst, pb, ofS, grdT, drf_tup, drf_lst, drf_flst, drf_int, drf_str, drf_bl, drf_non, etaP, getV, getB, setV, dropS, slot0, List.getElem?_cons_zero, List.getElem?_cons_succ, List.map_cons, List.map_nil, List.length_cons, List.length_nil, List.set_cons_zero, List.set_cons_succ, List.cons_append, List.nil_append, List.replicate, asBl, notD, evTp, evTps, bLen, lenD, bTuple, bList, seqOf, itO_l, itO_t, itO_f, itO_d, valsOf, itmsOf, cEq_int, cNe_int, cLe_int, cLt_int, cGt_int, cGe_int, binD, addD, subD, bltD, isTy, D.ty, xi_tup, xi_lst, xi_flst, seqOf, asInt, if_true, if_false, Bool.false_eq_true, List.zip_nil_left, List.zip_nil_right, List.zip_cons_cons, decide_true, decide_false, Bool.not_true, Bool.not_false, Bool.and_self, Bool.true_and, Bool.and_true, Bool.or_false, Bool.false_or, sz0, sz1, sz2, sz3, sz4, sz8, tyc_tup, mthT_tup, mthD]
theorem s_check_guesses (n : Nat) (S : List (List Int)) (h : isS a b S) : (ct (n + 7)).fn ("check_guesses" : Str) [dH a b, tupF S] = M.pure .non := by
  rw [c_check_guesses]
  have g1 : (ct (n + 6)).glob ("MOST_SOME" : Str) = some (.int 4) := by rw [ctOf_glob]; rfl
  have l0 : (S.map dW).length = S.length := List.length_map _
  have l1 : (1 : Int) ≤ (S.length : Int) := by have := h.lo; omega
  have l2 : (S.length : Int) ≤ 4 := by have := h.hi; omega
  have e1 : cmpD .IsNot .non .non = some false := by rfl
  simp only [d_check_guesses, k_is_row, s_is_row, g1, k_wrong_some, s_wrong_some hq _ _ h, l0, decide_eq_true l1, decide_eq_true l2, e1, evSs, evS, evE, evEs, evI, evB, evO, runF, seqF, ifF, evSet, tst, pb, ofS, grdT, drf_tup, drf_lst, drf_flst, drf_int, drf_str, drf_bl, drf_non, etaP, getV, getB, setV, dropS, slot0, List.getElem?_cons_zero, List.getElem?_cons_succ, List.map_cons, List.map_nil, List.length_cons, List.length_nil, List.set_cons_zero, List.set_cons_succ, List.cons_append, List.nil_append, List.replicate, asBl, notD, evTp, evTps, bLen, lenD, bTuple, bList, seqOf, itO_l, itO_t, itO_f, itO_d, valsOf, itmsOf, cEq_int, cNe_int, cLe_int, cLt_int, cGt_int, cGe_int, binD, addD, subD, bltD, isTy, D.ty, xi_tup, xi_lst, xi_flst, seqOf, asInt, if_true, if_false, Bool.false_eq_true, List.zip_nil_left, List.zip_nil_right, List.zip_cons_cons, decide_true, decide_false, Bool.not_true, Bool.not_false, Bool.and_self, Bool.true_and, Bool.and_true, Bool.or_false, Bool.false_or, sz0, sz1, sz2, sz3, sz4, sz8, tyc_tup, mthT_tup, mthD]
theorem s_is_total_pair (n : Nat) (S : List (List Int)) (h : isS a b S) (t : Int) (h0 : 0 ≤ t) (h1 : t ≤ a * (S.length : Int)) : (ct (n + 8)).fn ("is_total_pair" : Str) [dH a b, .tup [tupF S, .int t]] = M.pure (.bl true) := by
  rw [c_is_total_pair]
  have i0 : atI [tupF S, .int t] 0 = some (tupF S) := rfl
  have i1 : atI [tupF S, .int t] 1 = some (.int t) := rfl
  have l0 : (S.map dW).length = S.length := List.length_map _
  have ho : a ≤ 4 := (all_okH _ hq).2.1
  have hp : 2 ≤ a := (all_okH _ hq).1
  have lo := h.lo
  have hi := h.hi
  have mu := mul_sm (a := a) (n := (S.length : Int)) ⟨hp, ho⟩ ⟨by omega, by omega⟩
  have t2 : decide (((0 + 1 + 1 : Nat) : Int) = 2) = true := rfl
  simp only [d_is_total_pair, t2, k_is_tuple_of, s_is_tuple_of, i0, i1, k_are_some, s_are_some hq _ _ h, k_is_between, s_is_between, drf_dH, ix_H0, l0, mu, decide_eq_true h0, decide_eq_true h1, evSs, evS, evE, evEs, evI, evB, evO, runF, seqF, ifF, evSet, tst, pb, ofS, grdT, drf_tup, drf_lst, drf_flst, drf_int, drf_str, drf_bl, drf_non, etaP, getV, getB, setV, dropS, slot0, List.getElem?_cons_zero, List.getElem?_cons_succ, List.map_cons, List.map_nil, List.length_cons, List.length_nil, List.set_cons_zero, List.set_cons_succ, List.cons_append, List.nil_append, List.replicate, asBl, notD, evTp, evTps, bLen, lenD, bTuple, bList, seqOf, itO_l, itO_t, itO_f, itO_d, valsOf, itmsOf, cEq_int, cNe_int, cLe_int, cLt_int, cGt_int, cGe_int, binD, addD, subD, bltD, isTy, D.ty, xi_tup, xi_lst, xi_flst, seqOf, asInt, if_true, if_false, Bool.false_eq_true, List.zip_nil_left, List.zip_nil_right, List.zip_cons_cons, decide_true, decide_false, Bool.not_true, Bool.not_false, Bool.and_self, Bool.true_and, Bool.and_true, Bool.or_false, Bool.false_or, sz0, sz1, sz2, sz3, sz4, sz8, tyc_tup, mthT_tup, mthD]
theorem s_wrong_pair (n : Nat) (L : List (List (List Int) × Int)) (h : isL a b L) : (ct (n + 11)).fn ("wrong_pair" : Str) [dH a b, .tup (lgD L)] = M.pure .non := by
  rw [c_wrong_pair]
  have hh : ∀ lam, (ct (n + 10)).hfn ("first_wrong" : Str) [.tup (lgD L)] lam = hfnT TT (glF gls) 100 ("first_wrong" : Str) [.tup (lgD L)] lam := fun _ => rfl
  have hs1 : (ct (n + 10)).hsig ("first_wrong" : Str) = some d_first_wrong.ps := hs_k (n := n + 8) lk_first_wrong
  simp only [d_wrong_pair, callHC, hs1, hh, evSs, evS, evE, evEs, evI, evB, evO, runF, seqF, ifF, evSet, tst, pb, ofS, grdT, drf_tup, drf_lst, drf_flst, drf_int, drf_str, drf_bl, drf_non, etaP, getV, getB, setV, dropS, slot0, List.getElem?_cons_zero, List.getElem?_cons_succ, List.map_cons, List.map_nil, List.length_cons, List.length_nil, List.set_cons_zero, List.set_cons_succ, List.cons_append, List.nil_append, List.replicate, asBl, notD, evTp, evTps, bLen, lenD, bTuple, bList, seqOf, itO_l, itO_t, itO_f, itO_d, valsOf, itmsOf, cEq_int, cNe_int, cLe_int, cLt_int, cGt_int, cGe_int, binD, addD, subD, bltD, isTy, D.ty, xi_tup, xi_lst, xi_flst, seqOf, asInt, if_true, if_false, Bool.false_eq_true, List.zip_nil_left, List.zip_nil_right, List.zip_cons_cons, decide_true, decide_false, Bool.not_true, Bool.not_false, Bool.and_self, Bool.true_and, Bool.and_true, Bool.or_false, Bool.false_or, sz0, sz1, sz2, sz3, sz4, sz8, tyc_tup, mthT_tup, mthD]
  rw [s_first_wrong (lgD L) _ fun i d hd => ?_]
  · rfl
  · unfold lgD at hd
    rw [List.getElem?_map] at hd
    cases hp : L[i]? with
    | none => rw [hp] at hd; cases hd
    | some p =>
      rw [hp] at hd
      cases hd
      obtain ⟨h1, h2, h3⟩ := h.m p (List.mem_of_getElem? hp)
      have k1 : ∀ (x0 x1 : D), callC (ct (n + 10)).low ("is_total_pair" : Str) [x0, x1] [] = (ct (n + 8)).fn ("is_total_pair" : Str) [x0, x1] := fun x0 x1 => low_k (n := n + 8) lk_is_total_pair rfl (by decide)
      have sp := s_is_total_pair hq n p.1 h1 p.2 h2 h3
      simp only [lamOf, valO, setR, k1, sp, evSs, evS, evE, evEs, evI, evB, evO, runF, seqF, ifF, evSet, tst, pb, ofS, grdT, drf_tup, drf_lst, drf_flst, drf_int, drf_str, drf_bl, drf_non, etaP, getV, getB, setV, dropS, slot0, List.getElem?_cons_zero, List.getElem?_cons_succ, List.map_cons, List.map_nil, List.length_cons, List.length_nil, List.set_cons_zero, List.set_cons_succ, List.cons_append, List.nil_append, List.replicate, asBl, notD, evTp, evTps, bLen, lenD, bTuple, bList, seqOf, itO_l, itO_t, itO_f, itO_d, valsOf, itmsOf, cEq_int, cNe_int, cLe_int, cLt_int, cGt_int, cGe_int, binD, addD, subD, bltD, isTy, D.ty, xi_tup, xi_lst, xi_flst, seqOf, asInt, if_true, if_false, Bool.false_eq_true, List.zip_nil_left, List.zip_nil_right, List.zip_cons_cons, decide_true, decide_false, Bool.not_true, Bool.not_false, Bool.and_self, Bool.true_and, Bool.and_true, Bool.or_false, Bool.false_or, sz0, sz1, sz2, sz3, sz4, sz8, tyc_tup, mthT_tup, mthD]
theorem s_check_log (n : Nat) (L : List (List (List Int) × Int)) (h : isL a b L) : (ct (n + 12)).fn ("check_log" : Str) [dH a b, .tup (lgD L)] = M.pure .non := by
  rw [c_check_log]
  have g1 : (ct (n + 11)).glob ("MOST_LOG" : Str) = some (.int 4) := by rw [ctOf_glob]; rfl
  have l0 : (lgD L).length = L.length := List.length_map _
  have l1 : (0 : Int) ≤ (L.length : Int) := by omega
  have l2 : (L.length : Int) ≤ 4 := by
    have := h.len
    omega
  have e1 : cmpD .IsNot .non .non = some false := by rfl
  simp only [d_check_log, k_check_house, s_check_house _ _ _ (all_okH _ hq), k_is_row, s_is_row, g1, k_wrong_pair, s_wrong_pair hq _ _ h, l0, decide_eq_true l1, decide_eq_true l2, e1, evSs, evS, evE, evEs, evI, evB, evO, runF, seqF, ifF, evSet, tst, pb, ofS, grdT, drf_tup, drf_lst, drf_flst, drf_int, drf_str, drf_bl, drf_non, etaP, getV, getB, setV, dropS, slot0, List.getElem?_cons_zero, List.getElem?_cons_succ, List.map_cons, List.map_nil, List.length_cons, List.length_nil, List.set_cons_zero, List.set_cons_succ, List.cons_append, List.nil_append, List.replicate, asBl, notD, evTp, evTps, bLen, lenD, bTuple, bList, seqOf, itO_l, itO_t, itO_f, itO_d, valsOf, itmsOf, cEq_int, cNe_int, cLe_int, cLt_int, cGt_int, cGe_int, binD, addD, subD, bltD, isTy, D.ty, xi_tup, xi_lst, xi_flst, seqOf, asInt, if_true, if_false, Bool.false_eq_true, List.zip_nil_left, List.zip_nil_right, List.zip_cons_cons, decide_true, decide_false, Bool.not_true, Bool.not_false, Bool.and_self, Bool.true_and, Bool.and_true, Bool.or_false, Bool.false_or, sz0, sz1, sz2, sz3, sz4, sz8, tyc_tup, mthT_tup, mthD]
theorem s_check_some_of (n : Nat) (S : List (List Int)) (h : isS a b S) : (ct (n + 8)).fn ("check_some_of" : Str) [dH a b, tupF S] = M.pure .non := by
  rw [c_check_some_of]
  simp only [d_check_some_of, k_check_house, s_check_house _ _ _ (all_okH _ hq), k_check_guesses, s_check_guesses hq _ _ h, evSs, evS, evE, evEs, evI, evB, evO, runF, seqF, ifF, evSet, tst, pb, ofS, grdT, drf_tup, drf_lst, drf_flst, drf_int, drf_str, drf_bl, drf_non, etaP, getV, getB, setV, dropS, slot0, List.getElem?_cons_zero, List.getElem?_cons_succ, List.map_cons, List.map_nil, List.length_cons, List.length_nil, List.set_cons_zero, List.set_cons_succ, List.cons_append, List.nil_append, List.replicate, asBl, notD, evTp, evTps, bLen, lenD, bTuple, bList, seqOf, itO_l, itO_t, itO_f, itO_d, valsOf, itmsOf, cEq_int, cNe_int, cLe_int, cLt_int, cGt_int, cGe_int, binD, addD, subD, bltD, isTy, D.ty, xi_tup, xi_lst, xi_flst, seqOf, asInt, if_true, if_false, Bool.false_eq_true, List.zip_nil_left, List.zip_nil_right, List.zip_cons_cons, decide_true, decide_false, Bool.not_true, Bool.not_false, Bool.and_self, Bool.true_and, Bool.and_true, Bool.or_false, Bool.false_or, sz0, sz1, sz2, sz3, sz4, sz8, tyc_tup, mthT_tup, mthD]
theorem s_check_total (n : Nat) (S : List (List Int)) (h : isS a b S) (w : List Int) (hw : w ∈ wOf a b) : (ct (n + 9)).fn ("check_total" : Str) [dH a b, tupF S, dW w] = M.pure .non := by
  rw [c_check_total]
  simp only [d_check_total, k_check_some_of, s_check_some_of hq _ _ h, k_check_word, s_check_word _ _ _ _ (isW_of hq hw) (all_okH _ hq), evSs, evS, evE, evEs, evI, evB, evO, runF, seqF, ifF, evSet, tst, pb, ofS, grdT, drf_tup, drf_lst, drf_flst, drf_int, drf_str, drf_bl, drf_non, etaP, getV, getB, setV, dropS, slot0, List.getElem?_cons_zero, List.getElem?_cons_succ, List.map_cons, List.map_nil, List.length_cons, List.length_nil, List.set_cons_zero, List.set_cons_succ, List.cons_append, List.nil_append, List.replicate, asBl, notD, evTp, evTps, bLen, lenD, bTuple, bList, seqOf, itO_l, itO_t, itO_f, itO_d, valsOf, itmsOf, cEq_int, cNe_int, cLe_int, cLt_int, cGt_int, cGe_int, binD, addD, subD, bltD, isTy, D.ty, xi_tup, xi_lst, xi_flst, seqOf, asInt, if_true, if_false, Bool.false_eq_true, List.zip_nil_left, List.zip_nil_right, List.zip_cons_cons, decide_true, decide_false, Bool.not_true, Bool.not_false, Bool.and_self, Bool.true_and, Bool.and_true, Bool.or_false, Bool.false_or, sz0, sz1, sz2, sz3, sz4, sz8, tyc_tup, mthT_tup, mthD]
theorem s_total (n : Nat) (S : List (List Int)) (h : isS a b S) (w : List Int) (hw : w ∈ wOf a b) : (ct (n + 10)).fn ("total" : Str) [dH a b, tupF S, dW w] = M.pure (.int (tot S w)) := by
  rw [c_total]
  simp only [d_total, k_check_total, s_check_total hq _ _ h w hw, k_total_by, s_total_by hq (n + 6) _ h w hw, evSs, evS, evE, evEs, evI, evB, evO, runF, seqF, ifF, evSet, tst, pb, ofS, grdT, drf_tup, drf_lst, drf_flst, drf_int, drf_str, drf_bl, drf_non, etaP, getV, getB, setV, dropS, slot0, List.getElem?_cons_zero, List.getElem?_cons_succ, List.map_cons, List.map_nil, List.length_cons, List.length_nil, List.set_cons_zero, List.set_cons_succ, List.cons_append, List.nil_append, List.replicate, asBl, notD, evTp, evTps, bLen, lenD, bTuple, bList, seqOf, itO_l, itO_t, itO_f, itO_d, valsOf, itmsOf, cEq_int, cNe_int, cLe_int, cLt_int, cGt_int, cGe_int, binD, addD, subD, bltD, isTy, D.ty, xi_tup, xi_lst, xi_flst, seqOf, asInt, if_true, if_false, Bool.false_eq_true, List.zip_nil_left, List.zip_nil_right, List.zip_cons_cons, decide_true, decide_false, Bool.not_true, Bool.not_false, Bool.and_self, Bool.true_and, Bool.and_true, Bool.or_false, Bool.false_or, sz0, sz1, sz2, sz3, sz4, sz8, tyc_tup, mthT_tup, mthD]
/-- whether the log fits -/
def fit (L : List (List (List Int) × Int)) (w : List Int) : Bool := L.all fun p => decide (tot p.1 w = p.2)
theorem s_is_left_total (n : Nat) (L : List (List (List Int) × Int)) (h : isL a b L) (w : List Int) (hw : w ∈ wOf a b) : (ct (n + 4)).fn ("is_left_total" : Str) [.tup (lgD L), dW w] = M.pure (.bl (fit L w)) := by
  rw [c_is_left_total]
  simp only [d_is_left_total, evSs, evS, evE, evEs, evI, evB, evO, runF, seqF, ifF, evSet, tst, pb, ofS, grdT, drf_tup, drf_lst, drf_flst, drf_int, drf_str, drf_bl, drf_non, etaP, getV, getB, setV, dropS, slot0, List.getElem?_cons_zero, List.getElem?_cons_succ, List.map_cons, List.map_nil, List.length_cons, List.length_nil, List.set_cons_zero, List.set_cons_succ, List.cons_append, List.nil_append, List.replicate, asBl, notD, evTp, evTps, bLen, lenD, bTuple, bList, seqOf, itO_l, itO_t, itO_f, itO_d, valsOf, itmsOf, cEq_int, cNe_int, cLe_int, cLt_int, cGt_int, cGe_int, binD, addD, subD, bltD, isTy, D.ty, xi_tup, xi_lst, xi_flst, seqOf, asInt, if_true, if_false, Bool.false_eq_true, List.zip_nil_left, List.zip_nil_right, List.zip_cons_cons, decide_true, decide_false, Bool.not_true, Bool.not_false, Bool.and_self, Bool.true_and, Bool.and_true, Bool.or_false, Bool.false_or, sz0, sz1, sz2, sz3, sz4, sz8, tyc_tup, mthT_tup, mthD]
  rw [lc_map (l := L) (inj := fun p => .tup [tupF p.1, .int p.2]) (p := fun _ => true) (g := fun p => .bl (decide (tot p.1 w = p.2))) (by simp only [evSs, evS, evE, evEs, evI, evB, evO, runF, seqF, ifF, evSet, tst, pb, ofS, grdT, drf_tup, drf_lst, drf_flst, drf_int, drf_str, drf_bl, drf_non, etaP, getV, getB, setV, dropS, slot0, List.getElem?_cons_zero, List.getElem?_cons_succ, List.map_cons, List.map_nil, List.length_cons, List.length_nil, List.set_cons_zero, List.set_cons_succ, List.cons_append, List.nil_append, List.replicate, asBl, notD, evTp, evTps, bLen, lenD, bTuple, bList, seqOf, itO_l, itO_t, itO_f, itO_d, valsOf, itmsOf, cEq_int, cNe_int, cLe_int, cLt_int, cGt_int, cGe_int, binD, addD, subD, bltD, isTy, D.ty, xi_tup, xi_lst, xi_flst, seqOf, asInt, if_true, if_false, Bool.false_eq_true, List.zip_nil_left, List.zip_nil_right, List.zip_cons_cons, decide_true, decide_false, Bool.not_true, Bool.not_false, Bool.and_self, Bool.true_and, Bool.and_true, Bool.or_false, Bool.false_or, sz0, sz1, sz2, sz3, sz4, sz8, tyc_tup, mthT_tup, mthD]) rfl (fun p hp => ?_) (Nat.le_trans h.len (by decide))]
  · rw [List.filter_eq_self.mpr (fun _ _ => rfl)]
    have e : bAll [.lst (L.map fun p => D.bl (decide (tot p.1 w = p.2)))] = some (.bl (fit L w)) := by
      have := all_bls (L.map fun p => decide (tot p.1 w = p.2))
      rw [List.map_map, List.all_map] at this
      exact this
    simp only [e, evSs, evS, evE, evEs, evI, evB, evO, runF, seqF, ifF, evSet, tst, pb, ofS, grdT, drf_tup, drf_lst, drf_flst, drf_int, drf_str, drf_bl, drf_non, etaP, getV, getB, setV, dropS, slot0, List.getElem?_cons_zero, List.getElem?_cons_succ, List.map_cons, List.map_nil, List.length_cons, List.length_nil, List.set_cons_zero, List.set_cons_succ, List.cons_append, List.nil_append, List.replicate, asBl, notD, evTp, evTps, bLen, lenD, bTuple, bList, seqOf, itO_l, itO_t, itO_f, itO_d, valsOf, itmsOf, cEq_int, cNe_int, cLe_int, cLt_int, cGt_int, cGe_int, binD, addD, subD, bltD, isTy, D.ty, xi_tup, xi_lst, xi_flst, seqOf, asInt, if_true, if_false, Bool.false_eq_true, List.zip_nil_left, List.zip_nil_right, List.zip_cons_cons, decide_true, decide_false, Bool.not_true, Bool.not_false, Bool.and_self, Bool.true_and, Bool.and_true, Bool.or_false, Bool.false_or, sz0, sz1, sz2, sz3, sz4, sz8, tyc_tup, mthT_tup, mthD]
  · unfold compF
    simp only [k_total_by, s_total_by hq _ _ (h.m p hp).1 w hw, evSs, evS, evE, evEs, evI, evB, evO, runF, seqF, ifF, evSet, tst, pb, ofS, grdT, drf_tup, drf_lst, drf_flst, drf_int, drf_str, drf_bl, drf_non, etaP, getV, getB, setV, dropS, slot0, List.getElem?_cons_zero, List.getElem?_cons_succ, List.map_cons, List.map_nil, List.length_cons, List.length_nil, List.set_cons_zero, List.set_cons_succ, List.cons_append, List.nil_append, List.replicate, asBl, notD, evTp, evTps, bLen, lenD, bTuple, bList, seqOf, itO_l, itO_t, itO_f, itO_d, valsOf, itmsOf, cEq_int, cNe_int, cLe_int, cLt_int, cGt_int, cGe_int, binD, addD, subD, bltD, isTy, D.ty, xi_tup, xi_lst, xi_flst, seqOf, asInt, if_true, if_false, Bool.false_eq_true, List.zip_nil_left, List.zip_nil_right, List.zip_cons_cons, decide_true, decide_false, Bool.not_true, Bool.not_false, Bool.and_self, Bool.true_and, Bool.and_true, Bool.or_false, Bool.false_or, sz0, sz1, sz2, sz3, sz4, sz8, tyc_tup, mthT_tup, mthD]
theorem s_left_by (n : Nat) (L : List (List (List Int) × Int)) (h : isL a b L) : (ct (n + 5)).fn ("left_by" : Str) [dH a b, .tup (lgD L)] = M.pure (tupF ((wOf a b).filter (fit L))) := by
  rw [c_left_by]
  simp only [d_left_by, evSs, evS, evE, evEs, evI, evB, evO, runF, seqF, ifF, evSet, tst, pb, ofS, grdT, drf_tup, drf_lst, drf_flst, drf_int, drf_str, drf_bl, drf_non, etaP, getV, getB, setV, dropS, slot0, List.getElem?_cons_zero, List.getElem?_cons_succ, List.map_cons, List.map_nil, List.length_cons, List.length_nil, List.set_cons_zero, List.set_cons_succ, List.cons_append, List.nil_append, List.replicate, asBl, notD, evTp, evTps, bLen, lenD, bTuple, bList, seqOf, itO_l, itO_t, itO_f, itO_d, valsOf, itmsOf, cEq_int, cNe_int, cLe_int, cLt_int, cGt_int, cGe_int, binD, addD, subD, bltD, isTy, D.ty, xi_tup, xi_lst, xi_flst, seqOf, asInt, if_true, if_false, Bool.false_eq_true, List.zip_nil_left, List.zip_nil_right, List.zip_cons_cons, decide_true, decide_false, Bool.not_true, Bool.not_false, Bool.and_self, Bool.true_and, Bool.and_true, Bool.or_false, Bool.false_or, sz0, sz1, sz2, sz3, sz4, sz8, tyc_tup, mthT_tup, mthD]
  rw [lc_map (l := wOf a b) (inj := dW) (p := fit L) (g := dW) (by simp only [k_words_by, s_words_by _ _ _ hq, evSs, evS, evE, evEs, evI, evB, evO, runF, seqF, ifF, evSet, tst, pb, ofS, grdT, drf_tup, drf_lst, drf_flst, drf_int, drf_str, drf_bl, drf_non, etaP, getV, getB, setV, dropS, slot0, List.getElem?_cons_zero, List.getElem?_cons_succ, List.map_cons, List.map_nil, List.length_cons, List.length_nil, List.set_cons_zero, List.set_cons_succ, List.cons_append, List.nil_append, List.replicate, asBl, notD, evTp, evTps, bLen, lenD, bTuple, bList, seqOf, itO_l, itO_t, itO_f, itO_d, valsOf, itmsOf, cEq_int, cNe_int, cLe_int, cLt_int, cGt_int, cGe_int, binD, addD, subD, bltD, isTy, D.ty, xi_tup, xi_lst, xi_flst, seqOf, asInt, if_true, if_false, Bool.false_eq_true, List.zip_nil_left, List.zip_nil_right, List.zip_cons_cons, decide_true, decide_false, Bool.not_true, Bool.not_false, Bool.and_self, Bool.true_and, Bool.and_true, Bool.or_false, Bool.false_or, sz0, sz1, sz2, sz3, sz4, sz8, tyc_tup, mthT_tup, mthD]) rfl (fun w hw => ?_) (len81 (all_len _ hq).1)]
  · simp only [evSs, evS, evE, evEs, evI, evB, evO, runF, seqF, ifF, evSet, tst, pb, ofS, grdT, drf_tup, drf_lst, drf_flst, drf_int, drf_str, drf_bl, drf_non, etaP, getV, getB, setV, dropS, slot0, List.getElem?_cons_zero, List.getElem?_cons_succ, List.map_cons, List.map_nil, List.length_cons, List.length_nil, List.set_cons_zero, List.set_cons_succ, List.cons_append, List.nil_append, List.replicate, asBl, notD, evTp, evTps, bLen, lenD, bTuple, bList, seqOf, itO_l, itO_t, itO_f, itO_d, valsOf, itmsOf, cEq_int, cNe_int, cLe_int, cLt_int, cGt_int, cGe_int, binD, addD, subD, bltD, isTy, D.ty, xi_tup, xi_lst, xi_flst, seqOf, asInt, if_true, if_false, Bool.false_eq_true, List.zip_nil_left, List.zip_nil_right, List.zip_cons_cons, decide_true, decide_false, Bool.not_true, Bool.not_false, Bool.and_self, Bool.true_and, Bool.and_true, Bool.or_false, Bool.false_or, sz0, sz1, sz2, sz3, sz4, sz8, tyc_tup, mthT_tup, mthD]
  · unfold compF
    simp only [k_is_left_total, s_is_left_total hq _ _ h w hw, evSs, evS, evE, evEs, evI, evB, evO, runF, seqF, ifF, evSet, tst, pb, ofS, grdT, drf_tup, drf_lst, drf_flst, drf_int, drf_str, drf_bl, drf_non, etaP, getV, getB, setV, dropS, slot0, List.getElem?_cons_zero, List.getElem?_cons_succ, List.map_cons, List.map_nil, List.length_cons, List.length_nil, List.set_cons_zero, List.set_cons_succ, List.cons_append, List.nil_append, List.replicate, asBl, notD, evTp, evTps, bLen, lenD, bTuple, bList, seqOf, itO_l, itO_t, itO_f, itO_d, valsOf, itmsOf, cEq_int, cNe_int, cLe_int, cLt_int, cGt_int, cGe_int, binD, addD, subD, bltD, isTy, D.ty, xi_tup, xi_lst, xi_flst, seqOf, asInt, if_true, if_false, Bool.false_eq_true, List.zip_nil_left, List.zip_nil_right, List.zip_cons_cons, decide_true, decide_false, Bool.not_true, Bool.not_false, Bool.and_self, Bool.true_and, Bool.and_true, Bool.or_false, Bool.false_or, sz0, sz1, sz2, sz3, sz4, sz8, tyc_tup, mthT_tup, mthD]
    cases fit L w <;> rfl
theorem s_left_by_totals (n : Nat) (L : List (List (List Int) × Int)) (h : isL a b L) : (ct (n + 13)).fn ("left_by_totals" : Str) [dH a b, .tup (lgD L)] = M.pure (tupF ((wOf a b).filter (fit L))) := by
  rw [c_left_by_totals]
  simp only [d_left_by_totals, k_check_log, s_check_log hq _ _ h, k_left_by, s_left_by hq (n + 7) _ h, evSs, evS, evE, evEs, evI, evB, evO, runF, seqF, ifF, evSet, tst, pb, ofS, grdT, drf_tup, drf_lst, drf_flst, drf_int, drf_str, drf_bl, drf_non, etaP, getV, getB, setV, dropS, slot0, List.getElem?_cons_zero, List.getElem?_cons_succ, List.map_cons, List.map_nil, List.length_cons, List.length_nil, List.set_cons_zero, List.set_cons_succ, List.cons_append, List.nil_append, List.replicate, asBl, notD, evTp, evTps, bLen, lenD, bTuple, bList, seqOf, itO_l, itO_t, itO_f, itO_d, valsOf, itmsOf, cEq_int, cNe_int, cLe_int, cLt_int, cGt_int, cGe_int, binD, addD, subD, bltD, isTy, D.ty, xi_tup, xi_lst, xi_flst, seqOf, asInt, if_true, if_false, Bool.false_eq_true, List.zip_nil_left, List.zip_nil_right, List.zip_cons_cons, decide_true, decide_false, Bool.not_true, Bool.not_false, Bool.and_self, Bool.true_and, Bool.and_true, Bool.or_false, Bool.false_or, sz0, sz1, sz2, sz3, sz4, sz8, tyc_tup, mthT_tup, mthD]
def tbB : List IS := [.asg (.sub 2 (.call "total_by" [.loc 1, .loc 3] [] [])) (.bin .Add (.mth .get2 (.bor 2) [.call "total_by" [.loc 1, .loc 3] [] [], .int 0]) (.int 1))]
theorem tb_step (n : Nat) (S : List (List Int)) (h : isS a b S) (done : List (List Int)) (hd : done.length ≤ 81) (w : List Int) (hw : w ∈ wOf a b) (y3 : Sl) (h3 : vN y3) :
    ((ofO (evTp (.nm 3) (dW w) [.val (dH a b), .val (tupF S), .ownD (cD (cts (done.map (tot S)))), y3])).bind fun r => evSs (ct (n + 3)) tbB r) = M.pure (.nx [.val (dH a b), .val (tupF S), .ownD (cD (cts ((done ++ [w]).map (tot S)))), .val (dW w)]) := by
  have ev : evTp (.nm 3) (dW w) [.val (dH a b), .val (tupF S), .ownD (cD (cts (done.map (tot S)))), y3] = some [.val (dH a b), .val (tupF S), .ownD (cD (cts (done.map (tot S)))), .val (dW w)] := by
    rcases h3 with rfl | ⟨d, rfl⟩ <;> rfl
  rw [ev, ofS, pb]
  have eT : evE (ct (n + 3)) (.call "total_by" [.loc 1, .loc 3] [] []) [.val (dH a b), .val (tupF S), .ownD (cD (cts (done.map (tot S)))), .val (dW w)] = M.pure (.int (tot S w)) := by
    simp only [k_total_by, s_total_by hq _ _ h w hw, evSs, evS, evE, evEs, evI, evB, evO, runF, seqF, ifF, evSet, tst, pb, ofS, grdT, drf_tup, drf_lst, drf_flst, drf_int, drf_str, drf_bl, drf_non, etaP, getV, getB, setV, dropS, slot0, List.getElem?_cons_zero, List.getElem?_cons_succ, List.map_cons, List.map_nil, List.length_cons, List.length_nil, List.set_cons_zero, List.set_cons_succ, List.cons_append, List.nil_append, List.replicate, asBl, notD, evTp, evTps, bLen, lenD, bTuple, bList, seqOf, itO_l, itO_t, itO_f, itO_d, valsOf, itmsOf, cEq_int, cNe_int, cLe_int, cLt_int, cGt_int, cGe_int, binD, addD, subD, bltD, isTy, D.ty, xi_tup, xi_lst, xi_flst, seqOf, asInt, if_true, if_false, Bool.false_eq_true, List.zip_nil_left, List.zip_nil_right, List.zip_cons_cons, decide_true, decide_false, Bool.not_true, Bool.not_false, Bool.and_self, Bool.true_and, Bool.and_true, Bool.or_false, Bool.false_or, sz0, sz1, sz2, sz3, sz4, sz8, tyc_tup, mthT_tup, mthD]
  have oko := ok_cD (tot S w) (cts (done.map (tot S)))
  have cl : (cD (cts (done.map (tot S)))).length ≤ 81 := by
    unfold cD
    rw [List.length_map]
    exact Nat.le_trans (cts_len _) (by rw [List.length_map]; exact hd)
  have eg : mthT mGet2 "dict" (.dct (cD (cts (done.map (tot S))))) [.int (tot S w), .int 0] = some (.int (lkC (tot S w) (cts (done.map (tot S))) : Int)) := by
    rw [mt_g2 oko, find_cD]
  have s2 : evS (ct (n + 3)) (.asg (.sub 2 (.call "total_by" [.loc 1, .loc 3] [] [])) (.bin .Add (.mth .get2 (.bor 2) [.call "total_by" [.loc 1, .loc 3] [] [], .int 0]) (.int 1))) [.val (dH a b), .val (tupF S), .ownD (cD (cts (done.map (tot S)))), .val (dW w)] = M.pure (.nx [.val (dH a b), .val (tupF S), .ownD (cD (cts ((done ++ [w]).map (tot S)))), .val (dW w)]) := by
    refine asg_pure (d := .int ((lkC (tot S w) (cts (done.map (tot S))) : Int) + 1)) ?_ ?_
    · refine bin1 (a := .int (lkC (tot S w) (cts (done.map (tot S))) : Int)) (b := .int 1) ?_ rfl rfl
      simp only [ty_g2, drf_dct, eg, k_total_by, s_total_by hq _ _ h w hw, evSs, evS, evE, evEs, evI, evB, evO, runF, seqF, ifF, evSet, tst, pb, ofS, grdT, drf_tup, drf_lst, drf_flst, drf_int, drf_str, drf_bl, drf_non, etaP, getV, getB, setV, dropS, slot0, List.getElem?_cons_zero, List.getElem?_cons_succ, List.map_cons, List.map_nil, List.length_cons, List.length_nil, List.set_cons_zero, List.set_cons_succ, List.cons_append, List.nil_append, List.replicate, asBl, notD, evTp, evTps, bLen, lenD, bTuple, bList, seqOf, itO_l, itO_t, itO_f, itO_d, valsOf, itmsOf, cEq_int, cNe_int, cLe_int, cLt_int, cGt_int, cGe_int, binD, addD, subD, bltD, isTy, D.ty, xi_tup, xi_lst, xi_flst, seqOf, asInt, if_true, if_false, Bool.false_eq_true, List.zip_nil_left, List.zip_nil_right, List.zip_cons_cons, decide_true, decide_false, Bool.not_true, Bool.not_false, Bool.and_self, Bool.true_and, Bool.and_true, Bool.or_false, Bool.false_or, sz0, sz1, sz2, sz3, sz4, sz8, tyc_tup, mthT_tup, mthD]
    · rw [List.map_append, List.map_cons, List.map_nil, cts_snoc, ← put_cD]
      exact subD_pure (l := cD (cts (done.map (tot S)))) (k := .int (tot S w)) rfl eT oko (Nat.lt_of_le_of_lt cl (by decide))
  unfold tbB
  rw [sq_nx s2]
  rfl
/-- the table of totals -/
def totT (a b : Int) (S : List (List Int)) : D := .tup ((sortF idI ((wOf a b).map (tot S))).map (cntF ((wOf a b).map (tot S))))
theorem s_totals_by (n : Nat) (S : List (List Int)) (h : isS a b S) : (ct (n + 4)).fn ("totals_by" : Str) [dH a b, tupF S] = M.pure (totT a b S) := by
  rw [c_totals_by]
  have eb : d_totals_by.body = [.new 2 (.dct0), .for_ (.nm 3) (.val (.call "words_by" [.loc 0] [] [])) tbB, .ret (.blt .tuple [.vw .sortI (.bor 2)])] := rfl
  rw [eb]
  refine runF_of (ρ := [.val (dH a b), .val (tupF S), .no, .no]) rfl ?_
  have e1 : evS (ct (n + 3)) (.new 2 (.dct0)) [.val (dH a b), .val (tupF S), .no, .no] = M.pure (.nx [.val (dH a b), .val (tupF S), .ownD [], .no]) := rfl
  have e2 : evI (ct (n + 3)) (.val (.call "words_by" [.loc 0] [] [])) [.val (dH a b), .val (tupF S), .ownD [], .no] = M.pure ((wOf a b).map dW) := by
    simp only [k_words_by, s_words_by _ _ _ hq, evSs, evS, evE, evEs, evI, evB, evO, runF, seqF, ifF, evSet, tst, pb, ofS, grdT, drf_tup, drf_lst, drf_flst, drf_int, drf_str, drf_bl, drf_non, etaP, getV, getB, setV, dropS, slot0, List.getElem?_cons_zero, List.getElem?_cons_succ, List.map_cons, List.map_nil, List.length_cons, List.length_nil, List.set_cons_zero, List.set_cons_succ, List.cons_append, List.nil_append, List.replicate, asBl, notD, evTp, evTps, bLen, lenD, bTuple, bList, seqOf, itO_l, itO_t, itO_f, itO_d, valsOf, itmsOf, cEq_int, cNe_int, cLe_int, cLt_int, cGt_int, cGe_int, binD, addD, subD, bltD, isTy, D.ty, xi_tup, xi_lst, xi_flst, seqOf, asInt, if_true, if_false, Bool.false_eq_true, List.zip_nil_left, List.zip_nil_right, List.zip_cons_cons, decide_true, decide_false, Bool.not_true, Bool.not_false, Bool.and_self, Bool.true_and, Bool.and_true, Bool.or_false, Bool.false_or, sz0, sz1, sz2, sz3, sz4, sz8, tyc_tup, mthT_tup, mthD]
  have l81 := (all_len _ hq).1
  obtain ⟨ρ', e3, y3, h3, rfl⟩ := loop_inv (t := .nm 3) (g := fun r => evSs (ct (n + 3)) tbB r) (inj := dW) (fun done ρ => ∃ y3, vN y3 ∧ ρ = [.val (dH a b), .val (tupF S), .ownD (cD (cts (done.map (tot S)))), y3]) (wOf a b) [] [.val (dH a b), .val (tupF S), .ownD [], .no] (by
    rintro d x r ρ e ⟨y3, h3, rfl⟩
    rw [List.nil_append] at e
    have hd : d.length ≤ 81 := by
      have := congrArg List.length e
      simp only [List.length_append, List.length_cons] at this
      have l81 : (wOf a b).length ≤ 81 := l81
      omega
    have hx : x ∈ wOf a b := by rw [e]; simp
    exact ⟨_, tb_step hq n S h d hd x hx y3 h3, _, .inr ⟨_, rfl⟩, rfl⟩) ⟨.no, .inl rfl, rfl⟩
  rw [List.nil_append] at e3
  rw [sq_nx e1, sq_nx (for_nx e2 e3)]
  have it := items_cD ((wOf a b).map (tot S)) (by rw [List.length_map]; exact len81 l81)
  have iv : vwD .sortI (.dct (cD (cts ((wOf a b).map (tot S))))) = some (.lst ((sortF idI ((wOf a b).map (tot S))).map (cntF ((wOf a b).map (tot S))))) := it
  have ez : evE (ct (n + 3)) (.vw .sortI (.bor 2)) [.val (dH a b), .val (tupF S), .ownD (cD (cts ((wOf a b).map (tot S)))), y3] = M.pure (.lst ((sortF idI ((wOf a b).map (tot S))).map (cntF ((wOf a b).map (tot S))))) := by
    have e0 : evE (ct (n + 3)) (.bor 2) [.val (dH a b), .val (tupF S), .ownD (cD (cts ((wOf a b).map (tot S)))), y3] = M.pure (.dct (cD (cts ((wOf a b).map (tot S))))) := rfl
    show ((evE (ct (n + 3)) (.bor 2) _).bind fun d => fun A => ofO (vwD .sortI (deref A d)) A) = _
    rw [e0, pb]
    funext A
    show ofO (vwD .sortI (.dct (cD (cts ((wOf a b).map (tot S)))))) A = _
    rw [iv]
    rfl
  have e5 : evE (ct (n + 3)) (.blt .tuple [.vw .sortI (.bor 2)]) [.val (dH a b), .val (tupF S), .ownD (cD (cts ((wOf a b).map (tot S)))), y3] = M.pure (totT a b S) := blt1 rfl ez (fun _ => rfl) rfl
  show ((((evE (ct (n + 3)) _ _).bind fun d => M.pure (Fl.rt d))).bind _) = _
  rw [e5]
  rfl
theorem s_totals (n : Nat) (S : List (List Int)) (h : isS a b S) : (ct (n + 9)).fn ("totals" : Str) [dH a b, tupF S] = M.pure (totT a b S) := by
  rw [c_totals]
  simp only [d_totals, k_check_some_of, s_check_some_of hq _ _ h, k_totals_by, s_totals_by hq (n + 4) _ h, evSs, evS, evE, evEs, evI, evB, evO, runF, seqF, ifF, evSet, tst, pb, ofS, grdT, drf_tup, drf_lst, drf_flst, drf_int, drf_str, drf_bl, drf_non, etaP, getV, getB, setV, dropS, slot0, List.getElem?_cons_zero, List.getElem?_cons_succ, List.map_cons, List.map_nil, List.length_cons, List.length_nil, List.set_cons_zero, List.set_cons_succ, List.cons_append, List.nil_append, List.replicate, asBl, notD, evTp, evTps, bLen, lenD, bTuple, bList, seqOf, itO_l, itO_t, itO_f, itO_d, valsOf, itmsOf, cEq_int, cNe_int, cLe_int, cLt_int, cGt_int, cGe_int, binD, addD, subD, bltD, isTy, D.ty, xi_tup, xi_lst, xi_flst, seqOf, asInt, if_true, if_false, Bool.false_eq_true, List.zip_nil_left, List.zip_nil_right, List.zip_cons_cons, decide_true, decide_false, Bool.not_true, Bool.not_false, Bool.and_self, Bool.true_and, Bool.and_true, Bool.or_false, Bool.false_or, sz0, sz1, sz2, sz3, sz4, sz8, tyc_tup, mthT_tup, mthD]
end
theorem kw_total (n : Nat) (x y z : D) : callC (ct n) ("total" : Str) [] [("word", x), ("some", y), ("house", z)] = (ct n).fn ("total" : Str) [z, y, x] := call_kw lk_total rfl rfl
theorem kw_totals (n : Nat) (y z : D) : callC (ct n) ("totals" : Str) [] [("some", y), ("house", z)] = (ct n).fn ("totals" : Str) [z, y] := call_kw lk_totals rfl rfl
theorem kw_left (n : Nat) (y z : D) : callC (ct n) ("left_by_totals" : Str) [] [("log", y), ("house", z)] = (ct n).fn ("left_by_totals" : Str) [z, y] := call_kw lk_left_by_totals rfl rfl
end K46
end
section
set_option maxHeartbeats 4000000
namespace K46
open PySem PySem.Spec PyProof.Rows L2 Ev
def smB : List IS := [.appR 3 (.call "_law_of" [.loc 0, .ite (.cmp .Eq (.call "_law_take" [.loc 0, .int 5] [] []) (.int 0)) (.loc 3) (.loc 1)] [] [])]
section
variable {a b : Int} (hq : (a, b) ∈ hs)
include hq
theorem Bg_set {r q : Nat} {A : AH} {o : AO} (h : Bg r A) (hn : q ≠ r) : Bg r (A.set q o) := by
  obtain ⟨x, y, z, e⟩ := h
  exact ⟨x, y, z, by rw [List.getElem?_set_ne hn]; exact e⟩
theorem sm_step (n r q : Nat) (hn : q ≠ r) (i : Int) (S : List (List Int)) (hS : ∀ g ∈ S, g ∈ wOf a b) (h0 : 1 ≤ S.length) (hl : S.length ≤ 8) (A : AH) (h : Bg r A) (hA : A[q]? = some (.lst (S.map dW))) (y4 : Sl) (v4 : vN y4) : ∃ (g : List Int) (A' : AH), g ∈ wOf a b ∧ Bg r A' ∧ A'[q]? = some (.lst ((S ++ [g]).map dW)) ∧
    ((ofO (evTp (.nm 4) (.int i) [.val (.ref r), .val (dWs (wOf a b)), .val (.int 4), .val (.ref q), y4])).bind fun z => evSs (ct (n + 2)) smB z) A = .ok (.nx [.val (.ref r), .val (dWs (wOf a b)), .val (.int 4), .val (.ref q), .val (.int i)]) A' := by
  have ev : evTp (.nm 4) (.int i) [.val (.ref r), .val (dWs (wOf a b)), .val (.int 4), .val (.ref q), y4] = some [.val (.ref r), .val (dWs (wOf a b)), .val (.int 4), .val (.ref q), .val (.int i)] := by
    rcases v4 with rfl | ⟨d, rfl⟩ <;> rfl
  obtain ⟨g, A', hg, hb, hA', e⟩ : ∃ (g : List Int) (A' : AH), g ∈ wOf a b ∧ Bg r A' ∧ A'[q]? = some (.lst (S.map dW)) ∧ evE (ct (n + 2)) (.call "_law_of" [.loc 0, .ite (.cmp .Eq (.call "_law_take" [.loc 0, .int 5] [] []) (.int 0)) (.loc 3) (.loc 1)] [] []) [.val (.ref r), .val (dWs (wOf a b)), .val (.int 4), .val (.ref q), .val (.int i)] A = .ok (dW g) A' := by
    obtain ⟨t, A1, t0, t1, b1, f1, e1⟩ := s_law_takeF (n + 1) r A 5 h (by decide) (by decide)
    have hA1 : A1[q]? = some (.lst (S.map dW)) := by rw [f1 q hn]; exact hA
    by_cases c : t = 0
    · obtain ⟨x, hx, A2, b2, f2, e2⟩ := s_law_ofR n r q A1 (S.map dW) b1 hA1 hn (by
        intro e
        rw [List.map_eq_nil_iff] at e
        rw [e] at h0
        exact absurd h0 (by decide)) (by rw [List.length_map]; omega)
      obtain ⟨g, hg, rfl⟩ := List.mem_map.mp hx
      refine ⟨g, A2, hS g hg, b2, by rw [f2 q hn]; exact hA1, ?_⟩
      simp only [k__law_of, k__law_take, evSs, evS, evE, evEs, evI, evB, evO, runF, seqF, ifF, evSet, tst, pb, ofS, grdT, drf_tup, drf_lst, drf_flst, drf_int, drf_str, drf_bl, drf_non, etaP, getV, getB, setV, dropS, slot0, List.getElem?_cons_zero, List.getElem?_cons_succ, List.map_cons, List.map_nil, List.length_cons, List.length_nil, List.set_cons_zero, List.set_cons_succ, List.cons_append, List.nil_append, List.replicate, asBl, notD, evTp, evTps, bLen, lenD, bTuple, bList, seqOf, itO_l, itO_t, itO_f, itO_d, valsOf, itmsOf, cEq_int, cNe_int, cLe_int, cLt_int, cGt_int, cGe_int, binD, addD, subD, bltD, isTy, D.ty, xi_tup, xi_lst, xi_flst, seqOf, asInt, if_true, if_false, Bool.false_eq_true, List.zip_nil_left, List.zip_nil_right, List.zip_cons_cons, decide_true, decide_false, Bool.not_true, Bool.not_false, Bool.and_self, Bool.true_and, Bool.and_true, Bool.or_false, Bool.false_or, sz0, sz1, sz2, sz3, sz4, sz8, tyc_tup, mthT_tup, mthD, M.bind, M.pure, e1, e2, decide_eq_true c]
    · obtain ⟨g, hg, A2, b2, f2, e2⟩ := of_wF hq n r A1 b1
      refine ⟨g, A2, hg, b2, by rw [f2 q hn]; exact hA1, ?_⟩
      simp only [k__law_of, k__law_take, evSs, evS, evE, evEs, evI, evB, evO, runF, seqF, ifF, evSet, tst, pb, ofS, grdT, drf_tup, drf_lst, drf_flst, drf_int, drf_str, drf_bl, drf_non, etaP, getV, getB, setV, dropS, slot0, List.getElem?_cons_zero, List.getElem?_cons_succ, List.map_cons, List.map_nil, List.length_cons, List.length_nil, List.set_cons_zero, List.set_cons_succ, List.cons_append, List.nil_append, List.replicate, asBl, notD, evTp, evTps, bLen, lenD, bTuple, bList, seqOf, itO_l, itO_t, itO_f, itO_d, valsOf, itmsOf, cEq_int, cNe_int, cLe_int, cLt_int, cGt_int, cGe_int, binD, addD, subD, bltD, isTy, D.ty, xi_tup, xi_lst, xi_flst, seqOf, asInt, if_true, if_false, Bool.false_eq_true, List.zip_nil_left, List.zip_nil_right, List.zip_cons_cons, decide_true, decide_false, Bool.not_true, Bool.not_false, Bool.and_self, Bool.true_and, Bool.and_true, Bool.or_false, Bool.false_or, sz0, sz1, sz2, sz3, sz4, sz8, tyc_tup, mthT_tup, mthD, M.bind, M.pure, e1, e2, decide_eq_false c]
  have hlt : q < A'.length := (List.getElem?_eq_some_iff.mp hA').1
  refine ⟨g, A'.set q (.lst ((S ++ [g]).map dW)), hg, Bg_set hq hb hn, by rw [List.getElem?_set_self hlt], ?_⟩
  have oa : opApp (S.map dW) (dW g) = some ((S ++ [g]).map dW) := by
    unfold opApp
    rw [if_pos (by rw [List.length_map]; exact Nat.lt_of_lt_of_le (show S.length < 9 by omega) (by decide)), List.map_append]
    rfl
  rw [ev, ofS, pb]
  have s1 : evS (ct (n + 2)) (.appR 3 (.call "_law_of" [.loc 0, .ite (.cmp .Eq (.call "_law_take" [.loc 0, .int 5] [] []) (.int 0)) (.loc 3) (.loc 1)] [] [])) [.val (.ref r), .val (dWs (wOf a b)), .val (.int 4), .val (.ref q), .val (.int i)] A = .ok (.nx [.val (.ref r), .val (dWs (wOf a b)), .val (.int 4), .val (.ref q), .val (.int i)]) (A'.set q (.lst ((S ++ [g]).map dW))) := by
    show (((ofO (some q)).bind fun r' => (okRef r').bind fun _ => (evE (ct (n + 2)) _ _).bind fun d => opRef opApp _ r' d) A) = _
    rw [ofS, pb]
    have ok : okRef q A = .ok () A := by
      unfold okRef
      rw [hA]
    rw [bnd ok, bnd e]
    unfold opRef
    rw [hA']
    dsimp only
    rw [oa]
  unfold smB
  rw [sq_ne s1]
  rfl
theorem s_law_some (n r : Nat) (A : AH) (h : Bg r A) : ∃ (S : List (List Int)) (A' : AH), Bg r A' ∧ isS a b S ∧ (ct (n + 3)).fn ("_law_some" : Str) [.ref r, dWs (wOf a b), .int 4] A = .ok (tupF S) A' := by
  obtain ⟨g, hg, A1, b1, e1⟩ := of_w hq n r A h
  have hlt := b1.lt
  have hn : A1.length ≠ r := by omega
  have b1' : Bg r (A1 ++ [.lst [dW g]]) := by
    obtain ⟨x, y, z, e⟩ := b1
    exact ⟨x, y, z, by rw [List.getElem?_append_left hlt]; exact e⟩
  have s1 : evS (ct (n + 2)) (.set 3 (.newl [.call "_law_of" [.loc 0, .loc 1] [] []])) [.val (.ref r), .val (dWs (wOf a b)), .val (.int 4), .no, .no] A = .ok (.nx [.val (.ref r), .val (dWs (wOf a b)), .val (.int 4), .val (.ref A1.length), .no]) (A1 ++ [.lst [dW g]]) := by
    simp only [k__law_of, evSs, evS, evE, evEs, evI, evB, evO, runF, seqF, ifF, evSet, tst, pb, ofS, grdT, drf_tup, drf_lst, drf_flst, drf_int, drf_str, drf_bl, drf_non, etaP, getV, getB, setV, dropS, slot0, List.getElem?_cons_zero, List.getElem?_cons_succ, List.map_cons, List.map_nil, List.length_cons, List.length_nil, List.set_cons_zero, List.set_cons_succ, List.cons_append, List.nil_append, List.replicate, asBl, notD, evTp, evTps, bLen, lenD, bTuple, bList, seqOf, itO_l, itO_t, itO_f, itO_d, valsOf, itmsOf, cEq_int, cNe_int, cLe_int, cLt_int, cGt_int, cGe_int, binD, addD, subD, bltD, isTy, D.ty, xi_tup, xi_lst, xi_flst, seqOf, asInt, if_true, if_false, Bool.false_eq_true, List.zip_nil_left, List.zip_nil_right, List.zip_cons_cons, decide_true, decide_false, Bool.not_true, Bool.not_false, Bool.and_self, Bool.true_and, Bool.and_true, Bool.or_false, Bool.false_or, sz0, sz1, sz2, sz3, sz4, sz8, tyc_tup, mthT_tup, mthD, M.bind, M.pure, e1]
  obtain ⟨t, A2, t0, t1, b2, f2, e2⟩ := s_law_takeF (n + 1) r (A1 ++ [.lst [dW g]]) 4 b1' (by decide) (by decide)
  have hA2 : A2[A1.length]? = some (.lst ([g].map dW)) := by
    rw [f2 _ hn, List.getElem?_append_right (Nat.le_refl _), Nat.sub_self]
    rfl
  have er : evI (ct (n + 2)) (.rng1 (.call "_law_take" [.loc 0, .loc 2] [] [])) [.val (.ref r), .val (dWs (wOf a b)), .val (.int 4), .val (.ref A1.length), .no] (A1 ++ [.lst [dW g]]) = .ok ((List.range' 0 t.toNat).map fun (j : Nat) => D.int (j : Int)) A2 := by
    have hr := rng_ok t t0 (by omega)
    have hr' : decide (-(2 ^ 62) ≤ t) = true ∧ decide (t < 2 ^ 62) = true := by
      simpa only [Bool.and_eq_true] using hr
    rw [← rangeD_r]
    simp only [k__law_take, evSs, evS, evE, evEs, evI, evB, evO, runF, seqF, ifF, evSet, tst, pb, ofS, grdT, drf_tup, drf_lst, drf_flst, drf_int, drf_str, drf_bl, drf_non, etaP, getV, getB, setV, dropS, slot0, List.getElem?_cons_zero, List.getElem?_cons_succ, List.map_cons, List.map_nil, List.length_cons, List.length_nil, List.set_cons_zero, List.set_cons_succ, List.cons_append, List.nil_append, List.replicate, asBl, notD, evTp, evTps, bLen, lenD, bTuple, bList, seqOf, itO_l, itO_t, itO_f, itO_d, valsOf, itmsOf, cEq_int, cNe_int, cLe_int, cLt_int, cGt_int, cGe_int, binD, addD, subD, bltD, isTy, D.ty, xi_tup, xi_lst, xi_flst, seqOf, asInt, if_true, if_false, Bool.false_eq_true, List.zip_nil_left, List.zip_nil_right, List.zip_cons_cons, decide_true, decide_false, Bool.not_true, Bool.not_false, Bool.and_self, Bool.true_and, Bool.and_true, Bool.or_false, Bool.false_or, sz0, sz1, sz2, sz3, sz4, sz8, tyc_tup, mthT_tup, mthD, M.bind, M.pure, e2, grd, hr'.1, hr'.2]
  obtain ⟨ρ', A3, e3, S, y4, b3, hS, hl, hA3, v4, rfl⟩ := loop_invA (t := .nm 4) (g := fun z => evSs (ct (n + 2)) smB z) (inj := fun (j : Nat) => D.int (j : Int)) (fun done ρ A => ∃ S y4, Bg r A ∧ (∀ g ∈ S, g ∈ wOf a b) ∧ S.length = done.length + 1 ∧ A[A1.length]? = some (.lst (S.map dW)) ∧ vN y4 ∧ ρ = [.val (.ref r), .val (dWs (wOf a b)), .val (.int 4), .val (.ref A1.length), y4]) (List.range' 0 t.toNat) [] [.val (.ref r), .val (dWs (wOf a b)), .val (.int 4), .val (.ref A1.length), .no] A2 (by
    rintro d x rr ρ A e ⟨S, y4, hb, hS, hl, hA, v4, rfl⟩
    rw [List.nil_append] at e
    have hdl : d.length < 4 := by
      have := congrArg List.length e
      rw [List.length_range'] at this
      simp only [List.length_append, List.length_cons] at this
      omega
    obtain ⟨g', A', hg', hb', hA', es⟩ := sm_step hq n r A1.length hn (x : Int) S hS (by omega) (by omega) A hb hA y4 v4
    refine ⟨_, A', es, S ++ [g'], .val (.int (x : Int)), hb', fun v hv => ?_, by rw [List.length_append, List.length_append, hl]; rfl, hA', .inr ⟨_, rfl⟩, rfl⟩
    rcases List.mem_append.mp hv with hv | hv
    · exact hS v hv
    · rw [List.mem_singleton] at hv
      rw [hv]
      exact hg') ⟨[g], .no, b2, (fun v hv => by rw [List.mem_singleton] at hv; rw [hv]; exact hg), rfl, hA2, .inl rfl, rfl⟩
  have hl4 : S.length ≤ 4 := by
    rw [hl, List.nil_append, List.length_range']
    omega
  refine ⟨S, A3, b3, ⟨hS, by omega, hl4⟩, ?_⟩
  have eb : d__law_some.body = [.set 3 (.newl [.call "_law_of" [.loc 0, .loc 1] [] []]), .for_ (.nm 4) (.rng1 (.call "_law_take" [.loc 0, .loc 2] [] [])) smB, .ret (.blt .tuple [.bor 3])] := rfl
  rw [c__law_some, eb]
  refine runF_at (ρ := [.val (.ref r), .val (dWs (wOf a b)), .val (.int 4), .no, .no]) rfl ?_
  rw [sq_ne s1, sq_ne (for_ne er e3)]
  have dr : deref A3 (.ref A1.length) = .lst (S.map dW) := deref_at hA3
  simp only [evSs, evS, evE, evEs, evI, evB, evO, runF, seqF, ifF, evSet, tst, pb, ofS, grdT, drf_tup, drf_lst, drf_flst, drf_int, drf_str, drf_bl, drf_non, etaP, getV, getB, setV, dropS, slot0, List.getElem?_cons_zero, List.getElem?_cons_succ, List.map_cons, List.map_nil, List.length_cons, List.length_nil, List.set_cons_zero, List.set_cons_succ, List.cons_append, List.nil_append, List.replicate, asBl, notD, evTp, evTps, bLen, lenD, bTuple, bList, seqOf, itO_l, itO_t, itO_f, itO_d, valsOf, itmsOf, cEq_int, cNe_int, cLe_int, cLt_int, cGt_int, cGe_int, binD, addD, subD, bltD, isTy, D.ty, xi_tup, xi_lst, xi_flst, seqOf, asInt, if_true, if_false, Bool.false_eq_true, List.zip_nil_left, List.zip_nil_right, List.zip_cons_cons, decide_true, decide_false, Bool.not_true, Bool.not_false, Bool.and_self, Bool.true_and, Bool.and_true, Bool.or_false, Bool.false_or, sz0, sz1, sz2, sz3, sz4, sz8, tyc_tup, mthT_tup, mthD, M.bind, M.pure, dr]
theorem s_law_total (n : Nat) (S : List (List Int)) (h : isS a b S) (w : List Int) (hw : w ∈ wOf a b) : (ct (n + 2)).fn ("_law_total" : Str) [tupF S, dW w] = M.pure (.int (tot S w)) := by
  rw [c__law_total]
  simp only [d__law_total, evSs, evS, evE, evEs, evI, evB, evO, runF, seqF, ifF, evSet, tst, pb, ofS, grdT, drf_tup, drf_lst, drf_flst, drf_int, drf_str, drf_bl, drf_non, etaP, getV, getB, setV, dropS, slot0, List.getElem?_cons_zero, List.getElem?_cons_succ, List.map_cons, List.map_nil, List.length_cons, List.length_nil, List.set_cons_zero, List.set_cons_succ, List.cons_append, List.nil_append, List.replicate, asBl, notD, evTp, evTps, bLen, lenD, bTuple, bList, seqOf, itO_l, itO_t, itO_f, itO_d, valsOf, itmsOf, cEq_int, cNe_int, cLe_int, cLt_int, cGt_int, cGe_int, binD, addD, subD, bltD, isTy, D.ty, xi_tup, xi_lst, xi_flst, seqOf, asInt, if_true, if_false, Bool.false_eq_true, List.zip_nil_left, List.zip_nil_right, List.zip_cons_cons, decide_true, decide_false, Bool.not_true, Bool.not_false, Bool.and_self, Bool.true_and, Bool.and_true, Bool.or_false, Bool.false_or, sz0, sz1, sz2, sz3, sz4, sz8, tyc_tup, mthT_tup, mthD]
  rw [lc_map (l := S) (inj := dW) (p := fun _ => true) (g := fun g => .int (rgt g w)) (by simp only [evSs, evS, evE, evEs, evI, evB, evO, runF, seqF, ifF, evSet, tst, pb, ofS, grdT, drf_tup, drf_lst, drf_flst, drf_int, drf_str, drf_bl, drf_non, etaP, getV, getB, setV, dropS, slot0, List.getElem?_cons_zero, List.getElem?_cons_succ, List.map_cons, List.map_nil, List.length_cons, List.length_nil, List.set_cons_zero, List.set_cons_succ, List.cons_append, List.nil_append, List.replicate, asBl, notD, evTp, evTps, bLen, lenD, bTuple, bList, seqOf, itO_l, itO_t, itO_f, itO_d, valsOf, itmsOf, cEq_int, cNe_int, cLe_int, cLt_int, cGt_int, cGe_int, binD, addD, subD, bltD, isTy, D.ty, xi_tup, xi_lst, xi_flst, seqOf, asInt, if_true, if_false, Bool.false_eq_true, List.zip_nil_left, List.zip_nil_right, List.zip_cons_cons, decide_true, decide_false, Bool.not_true, Bool.not_false, Bool.and_self, Bool.true_and, Bool.and_true, Bool.or_false, Bool.false_or, sz0, sz1, sz2, sz3, sz4, sz8, tyc_tup, mthT_tup, mthD]) rfl (fun g hg => ?_) (Nat.le_trans h.hi (by decide))]
  · rw [List.filter_eq_self.mpr (fun _ _ => rfl)]
    have e : bSum [.lst (S.map fun g => D.int (rgt g w))] = some (.int (tot S w)) := by
      have := sum_ints (S.map fun g => rgt g w)
      rw [List.map_map] at this
      exact this
    simp only [e, evSs, evS, evE, evEs, evI, evB, evO, runF, seqF, ifF, evSet, tst, pb, ofS, grdT, drf_tup, drf_lst, drf_flst, drf_int, drf_str, drf_bl, drf_non, etaP, getV, getB, setV, dropS, slot0, List.getElem?_cons_zero, List.getElem?_cons_succ, List.map_cons, List.map_nil, List.length_cons, List.length_nil, List.set_cons_zero, List.set_cons_succ, List.cons_append, List.nil_append, List.replicate, asBl, notD, evTp, evTps, bLen, lenD, bTuple, bList, seqOf, itO_l, itO_t, itO_f, itO_d, valsOf, itmsOf, cEq_int, cNe_int, cLe_int, cLt_int, cGt_int, cGe_int, binD, addD, subD, bltD, isTy, D.ty, xi_tup, xi_lst, xi_flst, seqOf, asInt, if_true, if_false, Bool.false_eq_true, List.zip_nil_left, List.zip_nil_right, List.zip_cons_cons, decide_true, decide_false, Bool.not_true, Bool.not_false, Bool.and_self, Bool.true_and, Bool.and_true, Bool.or_false, Bool.false_or, sz0, sz1, sz2, sz3, sz4, sz8, tyc_tup, mthT_tup, mthD]
  · have f : (ct (n + 1)).fn ("_law_answer" : Str) [.str "rights", dW g, dW w] = M.pure (.int (rgt g w)) := s_law_answer hq n 2 g w (h.m g hg) hw
    unfold compF
    simp only [k__law_answer, f, evSs, evS, evE, evEs, evI, evB, evO, runF, seqF, ifF, evSet, tst, pb, ofS, grdT, drf_tup, drf_lst, drf_flst, drf_int, drf_str, drf_bl, drf_non, etaP, getV, getB, setV, dropS, slot0, List.getElem?_cons_zero, List.getElem?_cons_succ, List.map_cons, List.map_nil, List.length_cons, List.length_nil, List.set_cons_zero, List.set_cons_succ, List.cons_append, List.nil_append, List.replicate, asBl, notD, evTp, evTps, bLen, lenD, bTuple, bList, seqOf, itO_l, itO_t, itO_f, itO_d, valsOf, itmsOf, cEq_int, cNe_int, cLe_int, cLt_int, cGt_int, cGe_int, binD, addD, subD, bltD, isTy, D.ty, xi_tup, xi_lst, xi_flst, seqOf, asInt, if_true, if_false, Bool.false_eq_true, List.zip_nil_left, List.zip_nil_right, List.zip_cons_cons, decide_true, decide_false, Bool.not_true, Bool.not_false, Bool.and_self, Bool.true_and, Bool.and_true, Bool.or_false, Bool.false_or, sz0, sz1, sz2, sz3, sz4, sz8, tyc_tup, mthT_tup, mthD]
end
end K46
end
section
set_option maxHeartbeats 4000000
namespace K46
open PySem PySem.Spec PyProof.Rows L2 Ev
abbrev rho (r : Nat) (most : Int) (a b : Int) (k : Nat) (y3 y4 y5 y6 y9 y10 : Sl) : Ev.Env := [.val (.ref r), .val (.int most), .val (dWs (wOf a b)), y3, y4, y5, y6, .val (dH a b), .val (.str (rS k)), y9, y10, .no, .no, .no]
def lgB : List IS := [.set 9 (.call "_law_some" [.loc 0, .loc 2, .int 4] [] []),
 .app 5 (.tup [.loc 9, .call "_law_total" [.loc 9, .ite (.cmp .Gt (.call "_law_take" [.loc 0, .int 4] [] []) (.int 0)) (.loc 10) (.call "_law_of" [.loc 0, .loc 2] [] [])] [] []])]
abbrev smsD (a b : Int) (S : List (List Int)) : D := .lst (((wOf a b).map (tot S)).map .int)
abbrev dueD (a b : Int) (S : List (List Int)) (w : List Int) : D := .lst [.int (tot S w), totT a b S]
section
variable {a b : Int} (hq : (a, b) ∈ hs)
include hq
theorem lg_step (m r k : Nat) (most : Int) (y3 y4 y6 y9 : Sl) (v6 : vN y6) (v9 : vN y9) (wd : List Int) (hw : wd ∈ wOf a b) (i : Int) (L : List (List (List Int) × Int)) (hL : ∀ p ∈ L, isS a b p.1 ∧ 0 ≤ p.2 ∧ p.2 ≤ a * (p.1.length : Int)) (hl : L.length ≤ 8) (A : AH) (h : Bg r A) : ∃ (S : List (List Int)) (t : Int) (A' : AH), isS a b S ∧ 0 ≤ t ∧ t ≤ a * (S.length : Int) ∧ Bg r A' ∧
    ((ofO (evTp (.nm 6) (.int i) (rho r most a b k y3 y4 (.own (lgD L)) y6 y9 (.val (dW wd))))).bind fun q => evSs (ct (m + 13)) lgB q) A = .ok (.nx (rho r most a b k y3 y4 (.own (lgD (L ++ [(S, t)]))) (.val (.int i)) (.val (tupF S)) (.val (dW wd)))) A' := by
  have ev : evTp (.nm 6) (.int i) (rho r most a b k y3 y4 (.own (lgD L)) y6 y9 (.val (dW wd))) = some (rho r most a b k y3 y4 (.own (lgD L)) (.val (.int i)) y9 (.val (dW wd))) := by
    rcases v6 with rfl | ⟨d, rfl⟩ <;> rfl
  obtain ⟨S, A1, b1, hS, e1⟩ := s_law_some hq (m + 10) r A h
  have e1 : (ct (m + 13)).fn ("_law_some" : Str) [.ref r, dWs (wOf a b), .int 4] A = .ok (tupF S) A1 := e1
  have s1 : evS (ct (m + 13)) (.set 9 (.call "_law_some" [.loc 0, .loc 2, .int 4] [] [])) (rho r most a b k y3 y4 (.own (lgD L)) (.val (.int i)) y9 (.val (dW wd))) A = .ok (.nx (rho r most a b k y3 y4 (.own (lgD L)) (.val (.int i)) (.val (tupF S)) (.val (dW wd)))) A1 := by
    generalize tupF S = X at e1
    generalize lgD L = LL
    rcases v9 with rfl | ⟨d, rfl⟩ <;> simp only [k__law_some, evSs, evS, evE, evEs, evI, evB, evO, runF, seqF, ifF, evSet, tst, pb, ofS, grdT, drf_tup, drf_lst, drf_flst, drf_int, drf_str, drf_bl, drf_non, etaP, getV, getB, setV, dropS, slot0, List.getElem?_cons_zero, List.getElem?_cons_succ, List.map_cons, List.map_nil, List.length_cons, List.length_nil, List.set_cons_zero, List.set_cons_succ, List.cons_append, List.nil_append, List.replicate, asBl, notD, evTp, evTps, bLen, lenD, bTuple, bList, seqOf, itO_l, itO_t, itO_f, itO_d, valsOf, itmsOf, cEq_int, cNe_int, cLe_int, cLt_int, cGt_int, cGe_int, binD, addD, subD, bltD, isTy, D.ty, xi_tup, xi_lst, xi_flst, seqOf, asInt, if_true, if_false, Bool.false_eq_true, List.zip_nil_left, List.zip_nil_right, List.zip_cons_cons, decide_true, decide_false, Bool.not_true, Bool.not_false, Bool.and_self, Bool.true_and, Bool.and_true, Bool.or_false, Bool.false_or, sz0, sz1, sz2, sz3, sz4, sz8, tyc_tup, mthT_tup, mthD, M.bind, M.pure, e1]
  obtain ⟨v, A2, hv, b2, e2⟩ : ∃ (v : List Int) (A2 : AH), v ∈ wOf a b ∧ Bg r A2 ∧ evE (ct (m + 13)) (.tup [.loc 9, .call "_law_total" [.loc 9, .ite (.cmp .Gt (.call "_law_take" [.loc 0, .int 4] [] []) (.int 0)) (.loc 10) (.call "_law_of" [.loc 0, .loc 2] [] [])] [] []]) (rho r most a b k y3 y4 (.own (lgD L)) (.val (.int i)) (.val (tupF S)) (.val (dW wd))) A1 = .ok (.tup [tupF S, .int (tot S v)]) A2 := by
    have lt : ∀ v, v ∈ wOf a b → (ct (m + 13)).fn ("_law_total" : Str) [tupF S, dW v] = M.pure (.int (tot S v)) := fun v hv => s_law_total hq (m + 11) S hS v hv
    obtain ⟨t, A2, t0, t1, b2, e2⟩ := s_law_take (m + 12) r A1 4 b1 (by decide) (by decide)
    have e2 : (ct (m + 13)).fn ("_law_take" : Str) [.ref r, .int 4] A1 = .ok (.int t) A2 := e2
    by_cases c : 0 < t
    · refine ⟨wd, A2, hw, b2, ?_⟩
      have lt := lt wd hw
      generalize tupF S = X at lt
      generalize lgD L = LL
      simp only [k__law_total, k__law_of, k__law_take, evSs, evS, evE, evEs, evI, evB, evO, runF, seqF, ifF, evSet, tst, pb, ofS, grdT, drf_tup, drf_lst, drf_flst, drf_int, drf_str, drf_bl, drf_non, etaP, getV, getB, setV, dropS, slot0, List.getElem?_cons_zero, List.getElem?_cons_succ, List.map_cons, List.map_nil, List.length_cons, List.length_nil, List.set_cons_zero, List.set_cons_succ, List.cons_append, List.nil_append, List.replicate, asBl, notD, evTp, evTps, bLen, lenD, bTuple, bList, seqOf, itO_l, itO_t, itO_f, itO_d, valsOf, itmsOf, cEq_int, cNe_int, cLe_int, cLt_int, cGt_int, cGe_int, binD, addD, subD, bltD, isTy, D.ty, xi_tup, xi_lst, xi_flst, seqOf, asInt, if_true, if_false, Bool.false_eq_true, List.zip_nil_left, List.zip_nil_right, List.zip_cons_cons, decide_true, decide_false, Bool.not_true, Bool.not_false, Bool.and_self, Bool.true_and, Bool.and_true, Bool.or_false, Bool.false_or, sz0, sz1, sz2, sz3, sz4, sz8, tyc_tup, mthT_tup, mthD, M.bind, M.pure, e2, lt, decide_eq_true c]
    · obtain ⟨g, hg, A3, b3, e3⟩ := of_w hq (m + 11) r A2 b2
      have e3 : (ct (m + 13)).fn ("_law_of" : Str) [.ref r, dWs (wOf a b)] A2 = .ok (dW g) A3 := e3
      refine ⟨g, A3, hg, b3, ?_⟩
      have lt := lt g hg
      generalize tupF S = X at lt
      generalize lgD L = LL
      simp only [k__law_total, k__law_of, k__law_take, evSs, evS, evE, evEs, evI, evB, evO, runF, seqF, ifF, evSet, tst, pb, ofS, grdT, drf_tup, drf_lst, drf_flst, drf_int, drf_str, drf_bl, drf_non, etaP, getV, getB, setV, dropS, slot0, List.getElem?_cons_zero, List.getElem?_cons_succ, List.map_cons, List.map_nil, List.length_cons, List.length_nil, List.set_cons_zero, List.set_cons_succ, List.cons_append, List.nil_append, List.replicate, asBl, notD, evTp, evTps, bLen, lenD, bTuple, bList, seqOf, itO_l, itO_t, itO_f, itO_d, valsOf, itmsOf, cEq_int, cNe_int, cLe_int, cLt_int, cGt_int, cGe_int, binD, addD, subD, bltD, isTy, D.ty, xi_tup, xi_lst, xi_flst, seqOf, asInt, if_true, if_false, Bool.false_eq_true, List.zip_nil_left, List.zip_nil_right, List.zip_cons_cons, decide_true, decide_false, Bool.not_true, Bool.not_false, Bool.and_self, Bool.true_and, Bool.and_true, Bool.or_false, Bool.false_or, sz0, sz1, sz2, sz3, sz4, sz8, tyc_tup, mthT_tup, mthD, M.bind, M.pure, e2, e3, lt, decide_eq_false c]
  obtain ⟨x0, x1⟩ := tot_b hq hv hS.m
  refine ⟨S, tot S v, A2, hS, x0, x1, b2, ?_⟩
  have oa : opApp (lgD L) (.tup [tupF S, .int (tot S v)]) = some (lgD (L ++ [(S, tot S v)])) := by
    unfold opApp lgD
    rw [if_pos (by rw [List.length_map]; exact Nat.lt_of_lt_of_le (show L.length < 9 by omega) (by decide)), List.map_append]
    rfl
  have s2 : evS (ct (m + 13)) (.app 5 (.tup [.loc 9, .call "_law_total" [.loc 9, .ite (.cmp .Gt (.call "_law_take" [.loc 0, .int 4] [] []) (.int 0)) (.loc 10) (.call "_law_of" [.loc 0, .loc 2] [] [])] [] []])) (rho r most a b k y3 y4 (.own (lgD L)) (.val (.int i)) (.val (tupF S)) (.val (dW wd))) A1 = .ok (.nx (rho r most a b k y3 y4 (.own (lgD (L ++ [(S, tot S v)]))) (.val (.int i)) (.val (tupF S)) (.val (dW wd)))) A2 := by
    show evOwn 5 opApp (evE (ct (m + 13)) _) _ A1 = _
    unfold evOwn
    have ow : ownAt (rho r most a b k y3 y4 (.own (lgD L)) (.val (.int i)) (.val (tupF S)) (.val (dW wd))) 5 = some (lgD L) := rfl
    rw [ow, ofS, pb, bnd e2, oa]
    rfl
  unfold lgB
  rw [ev, ofS, pb, sq_ne s1, sq_ne s2]
  rfl
theorem sums_b (S : List (List Int)) (h : isS a b S) : ∀ x ∈ (wOf a b).map (tot S), 0 ≤ x ∧ x < 63 := fun x hx => by
  obtain ⟨w, hw, rfl⟩ := List.mem_map.mp hx
  exact tot_63 hq hw h
theorem due_sh (S : List (List Int)) (h : isS a b S) (w : List Int) (hw : w ∈ wOf a b) : shd (2 * (81 * (4 * (1921 + 2) + 3 + 2) + 3 + 2) + 3) (dueD a b S w) ∧ okd 4 (dueD a b S w) := by
  have hb := sums_b hq S h
  have hl : ((wOf a b).map (tot S)).length ≤ 81 := by
    rw [List.length_map]
    exact (all_len _ hq).1
  refine ⟨shd_lst (fun x hx => ?_) (Nat.le_refl 2), okd_lst (k := 3) fun x hx => ?_⟩
  · simp only [List.mem_cons, List.not_mem_nil, or_false] at hx
    rcases hx with rfl | rfl
    · exact (shd_int (lg_sm (tot_63 hq hw h).1 (by have := (tot_63 hq hw h).2; omega))).mono (by decide)
    · refine shd_tup (k := 4 * (1921 + 2) + 3) (fun x hx => ?_) (by rw [List.length_map]; exact Nat.le_trans (sortF_len _) hl)
      obtain ⟨n, hn, rfl⟩ := List.mem_map.mp hx
      exact shd_cnt (fun x hx => ⟨(hb x hx).1, by have := (hb x hx).2; omega⟩) (by omega) n (mem_sf.mp hn)
  · simp only [List.mem_cons, List.not_mem_nil, or_false] at hx
    rcases hx with rfl | rfl
    · exact okd_int
    · refine okd_tup (k := 2) fun x hx => ?_
      obtain ⟨n, hn, rfl⟩ := List.mem_map.mp hx
      exact okd_dW (w := [n, _])
theorem e_sums (m r k : Nat) (most : Int) (S : List (List Int)) (hS : isS a b S) (wd : List Int) : evS (ct (m + 13)) (.set 3 (.lc (.call "_law_total" [.loc 9, .loc 11] [] []) [11] (.nm 11) (.val (.bor 2)) none)) (rho r most a b k .no .no .no .no (.val (tupF S)) (.val (dW wd))) = M.pure (.nx (rho r most a b k (.val (smsD a b S)) .no .no .no (.val (tupF S)) (.val (dW wd)))) := by
  refine set1 (d := smsD a b S) ?_ rfl
  show evLc _ _ _ _ _ _ = _
  have lt : ∀ v, v ∈ wOf a b → (ct (m + 13)).fn ("_law_total" : Str) [tupF S, dW v] = M.pure (.int (tot S v)) := fun v hv => s_law_total hq (m + 11) S hS v hv
  generalize tupF S = X at lt
  rw [lc_map (l := wOf a b) (inj := dW) (p := fun _ => true) (g := fun w => .int (tot S w)) (by simp only [evSs, evS, evE, evEs, evI, evB, evO, runF, seqF, ifF, evSet, tst, pb, ofS, grdT, drf_tup, drf_lst, drf_flst, drf_int, drf_str, drf_bl, drf_non, etaP, getV, getB, setV, dropS, slot0, List.getElem?_cons_zero, List.getElem?_cons_succ, List.map_cons, List.map_nil, List.length_cons, List.length_nil, List.set_cons_zero, List.set_cons_succ, List.cons_append, List.nil_append, List.replicate, asBl, notD, evTp, evTps, bLen, lenD, bTuple, bList, seqOf, itO_l, itO_t, itO_f, itO_d, valsOf, itmsOf, cEq_int, cNe_int, cLe_int, cLt_int, cGt_int, cGe_int, binD, addD, subD, bltD, isTy, D.ty, xi_tup, xi_lst, xi_flst, seqOf, asInt, if_true, if_false, Bool.false_eq_true, List.zip_nil_left, List.zip_nil_right, List.zip_cons_cons, decide_true, decide_false, Bool.not_true, Bool.not_false, Bool.and_self, Bool.true_and, Bool.and_true, Bool.or_false, Bool.false_or, sz0, sz1, sz2, sz3, sz4, sz8, tyc_tup, mthT_tup, mthD]) rfl (fun w hw => ?_) (len81 (all_len _ hq).1)]
  · rw [List.filter_eq_self.mpr (fun _ _ => rfl)]
    unfold smsD
    rw [List.map_map]
    rfl
  · unfold compF
    have lt := lt w hw
    simp only [k__law_total, lt, evSs, evS, evE, evEs, evI, evB, evO, runF, seqF, ifF, evSet, tst, pb, ofS, grdT, drf_tup, drf_lst, drf_flst, drf_int, drf_str, drf_bl, drf_non, etaP, getV, getB, setV, dropS, slot0, List.getElem?_cons_zero, List.getElem?_cons_succ, List.map_cons, List.map_nil, List.length_cons, List.length_nil, List.set_cons_zero, List.set_cons_succ, List.cons_append, List.nil_append, List.replicate, asBl, notD, evTp, evTps, bLen, lenD, bTuple, bList, seqOf, itO_l, itO_t, itO_f, itO_d, valsOf, itmsOf, cEq_int, cNe_int, cLe_int, cLt_int, cGt_int, cGe_int, binD, addD, subD, bltD, isTy, D.ty, xi_tup, xi_lst, xi_flst, seqOf, asInt, if_true, if_false, Bool.false_eq_true, List.zip_nil_left, List.zip_nil_right, List.zip_cons_cons, decide_true, decide_false, Bool.not_true, Bool.not_false, Bool.and_self, Bool.true_and, Bool.and_true, Bool.or_false, Bool.false_or, sz0, sz1, sz2, sz3, sz4, sz8, tyc_tup, mthT_tup, mthD]
theorem e_due (m r k : Nat) (most : Int) (S : List (List Int)) (hS : isS a b S) (wd : List Int) (hw : wd ∈ wOf a b) : evS (ct (m + 13)) (.set 4 (.lst [.call "_law_total" [.loc 9, .loc 10] [] [], .blt .tuple [.lc (.tup [.loc 12, .mth .count (.bor 3) [.loc 12]]) [12] (.nm 12) (.val (.sset (.bor 3))) none]])) (rho r most a b k (.val (smsD a b S)) .no .no .no (.val (tupF S)) (.val (dW wd))) = M.pure (.nx (rho r most a b k (.val (smsD a b S)) (.val (dueD a b S wd)) .no .no (.val (tupF S)) (.val (dW wd)))) := by
  have hb := sums_b hq S hS
  have hl : ((wOf a b).map (tot S)).length ≤ 81 := by
    rw [List.length_map]
    exact (all_len _ hq).1
  have ss := ss_lst (ns := (wOf a b).map (tot S)) (by omega) hb
  have lt : (ct (m + 13)).fn ("_law_total" : Str) [tupF S, dW wd] = M.pure (.int (tot S wd)) := s_law_total hq (m + 11) S hS wd hw
  have el : evE (ct (m + 13)) (.lc (.tup [.loc 12, .mth .count (.bor 3) [.loc 12]]) [12] (.nm 12) (.val (.sset (.bor 3))) none) (rho r most a b k (.val (smsD a b S)) .no .no .no (.val (tupF S)) (.val (dW wd))) = M.pure (.lst ((sortF idI ((wOf a b).map (tot S))).map (cntF ((wOf a b).map (tot S))))) := by
    have es : evI (ct (m + 13)) (.val (.sset (.bor 3))) (rho r most a b k (.val (smsD a b S)) .no .no .no (.val (tupF S)) (.val (dW wd))) = M.pure ((sortF idI ((wOf a b).map (tot S))).map .int) := by
      have e0 : evE (ct (m + 13)) (.sset (.bor 3)) (rho r most a b k (.val (smsD a b S)) .no .no .no (.val (tupF S)) (.val (dW wd))) = M.pure (.lst ((sortF idI ((wOf a b).map (tot S))).map .int)) := by
        have e00 : evE (ct (m + 13)) (.bor 3) (rho r most a b k (.val (smsD a b S)) .no .no .no (.val (tupF S)) (.val (dW wd))) = M.pure (smsD a b S) := rfl
        show ((evE (ct (m + 13)) (.bor 3) _).bind fun d => fun A => ofO (ssD (deref A d)) A) = _
        rw [e00, pb]
        funext A
        show ofO (ssD (smsD a b S)) A = _
        unfold smsD
        rw [ss]
        rfl
      show ((evE (ct (m + 13)) (.sset (.bor 3)) _).bind fun x => ofO (itOf x)) = _
      rw [e0]
      rfl
    show evLc _ _ _ _ _ _ = _
    rw [lc_map (l := sortF idI ((wOf a b).map (tot S))) (inj := .int) (p := fun _ => true) (g := cntF ((wOf a b).map (tot S))) es rfl (fun n hn => ?_) (Nat.le_trans (sortF_len _) (len81 hl))]
    · rw [List.filter_eq_self.mpr (fun _ _ => rfl)]
    · unfold compF
      generalize tupF S = X
      simp only [ty_cL, mt_cL, cnt_L, evSs, evS, evE, evEs, evI, evB, evO, runF, seqF, ifF, evSet, tst, pb, ofS, grdT, drf_tup, drf_lst, drf_flst, drf_int, drf_str, drf_bl, drf_non, etaP, getV, getB, setV, dropS, slot0, List.getElem?_cons_zero, List.getElem?_cons_succ, List.map_cons, List.map_nil, List.length_cons, List.length_nil, List.set_cons_zero, List.set_cons_succ, List.cons_append, List.nil_append, List.replicate, asBl, notD, evTp, evTps, bLen, lenD, bTuple, bList, seqOf, itO_l, itO_t, itO_f, itO_d, valsOf, itmsOf, cEq_int, cNe_int, cLe_int, cLt_int, cGt_int, cGe_int, binD, addD, subD, bltD, isTy, D.ty, xi_tup, xi_lst, xi_flst, seqOf, asInt, if_true, if_false, Bool.false_eq_true, List.zip_nil_left, List.zip_nil_right, List.zip_cons_cons, decide_true, decide_false, Bool.not_true, Bool.not_false, Bool.and_self, Bool.true_and, Bool.and_true, Bool.or_false, Bool.false_or, sz0, sz1, sz2, sz3, sz4, sz8, tyc_tup, mthT_tup, mthD]
      rfl
  have e1 : evE (ct (m + 13)) (.call "_law_total" [.loc 9, .loc 10] [] []) (rho r most a b k (.val (smsD a b S)) .no .no .no (.val (tupF S)) (.val (dW wd))) = M.pure (.int (tot S wd)) := by
    generalize smsD a b S = Y
    generalize tupF S = X at lt
    simp only [k__law_total, lt, evSs, evS, evE, evEs, evI, evB, evO, runF, seqF, ifF, evSet, tst, pb, ofS, grdT, drf_tup, drf_lst, drf_flst, drf_int, drf_str, drf_bl, drf_non, etaP, getV, getB, setV, dropS, slot0, List.getElem?_cons_zero, List.getElem?_cons_succ, List.map_cons, List.map_nil, List.length_cons, List.length_nil, List.set_cons_zero, List.set_cons_succ, List.cons_append, List.nil_append, List.replicate, asBl, notD, evTp, evTps, bLen, lenD, bTuple, bList, seqOf, itO_l, itO_t, itO_f, itO_d, valsOf, itmsOf, cEq_int, cNe_int, cLe_int, cLt_int, cGt_int, cGe_int, binD, addD, subD, bltD, isTy, D.ty, xi_tup, xi_lst, xi_flst, seqOf, asInt, if_true, if_false, Bool.false_eq_true, List.zip_nil_left, List.zip_nil_right, List.zip_cons_cons, decide_true, decide_false, Bool.not_true, Bool.not_false, Bool.and_self, Bool.true_and, Bool.and_true, Bool.or_false, Bool.false_or, sz0, sz1, sz2, sz3, sz4, sz8, tyc_tup, mthT_tup, mthD]
  exact set1 (lst1 (es1 rfl e1 (es1 rfl (blt1 (f := .tuple) (r := totT a b S) rfl el (fun _ => rfl) rfl) es0)) (show 2 ≤ sizeLine by decide)) rfl
theorem e_cmp (m r k : Nat) (most : Int) (S : List (List Int)) (hS : isS a b S) (wd : List Int) (hw : wd ∈ wOf a b) (X : IE) (hx : evE (ct (m + 13)) X (rho r most a b k (.val (smsD a b S)) (.val (dueD a b S wd)) .no .no (.val (tupF S)) (.val (dW wd))) = M.pure (dueD a b S wd)) (hs : isStar X = false) : evS (ct (m + 13)) (.ite (.cmp .NotEq (.blt .repr [X]) (.blt .repr [.bor 4])) [.ret (.bl false)] []) (rho r most a b k (.val (smsD a b S)) (.val (dueD a b S wd)) .no .no (.val (tupF S)) (.val (dW wd))) = M.pure (.nx (rho r most a b k (.val (smsD a b S)) (.val (dueD a b S wd)) .no .no (.val (tupF S)) (.val (dW wd)))) := by
  obtain ⟨sT, oT⟩ := due_sh hq S hS wd hw
  have rp := repr_ok sT (oT.ok (by decide)) (by decide)
  have rn := repr_ne sT (oT.ok (by decide)) (by decide)
  have e4 : evE (ct (m + 13)) (.bor 4) (rho r most a b k (.val (smsD a b S)) (.val (dueD a b S wd)) .no .no (.val (tupF S)) (.val (dW wd))) = M.pure (dueD a b S wd) := rfl
  rw [ite1 (cmp1 (blt1 (f := .repr) (d := dueD a b S wd) hs hx (fun _ => rfl) rp) (blt1 (f := .repr) (d := dueD a b S wd) rfl e4 (fun _ => rfl) rp) rn)]
  rfl
theorem e_left (m r k : Nat) (most : Int) (S : List (List Int)) (y3 y4 y6 y9 : Sl) (v4 : vN y4) (v9 : vN y9) (wd : List Int) (L : List (List (List Int) × Int)) (hL : isL a b L) : evS (ct (m + 13)) (.set 4 (.blt .tuple [.lc (.loc 11) [11] (.nm 11) (.val (.bor 2)) (some (.blt .all [.lc (.cmp .Eq (.call "_law_total" [.loc 9, .loc 11] [] []) (.bor 13)) [9, 13] (.tp [.nm 9, .nm 13]) (.val (.bor 5)) none]))])) (rho r most a b k y3 y4 (.own (lgD L)) y6 y9 (.val (dW wd))) = M.pure (.nx (rho r most a b k y3 (.val (tupF ((wOf a b).filter (fit L)))) (.own (lgD L)) y6 y9 (.val (dW wd)))) := by
  have el : evE (ct (m + 13)) (.lc (.loc 11) [11] (.nm 11) (.val (.bor 2)) (some (.blt .all [.lc (.cmp .Eq (.call "_law_total" [.loc 9, .loc 11] [] []) (.bor 13)) [9, 13] (.tp [.nm 9, .nm 13]) (.val (.bor 5)) none]))) (rho r most a b k y3 y4 (.own (lgD L)) y6 y9 (.val (dW wd))) = M.pure (.lst (((wOf a b).filter (fit L)).map dW)) := by
    show evLc _ _ _ _ _ _ = _
    rw [lc_map (ρ' := rho r most a b k y3 y4 (.own (lgD L)) y6 y9 (.val (dW wd))) (l := wOf a b) (inj := dW) (p := fit L) (g := dW) (by simp only [evSs, evS, evE, evEs, evI, evB, evO, runF, seqF, ifF, evSet, tst, pb, ofS, grdT, drf_tup, drf_lst, drf_flst, drf_int, drf_str, drf_bl, drf_non, etaP, getV, getB, setV, dropS, slot0, List.getElem?_cons_zero, List.getElem?_cons_succ, List.map_cons, List.map_nil, List.length_cons, List.length_nil, List.set_cons_zero, List.set_cons_succ, List.cons_append, List.nil_append, List.replicate, asBl, notD, evTp, evTps, bLen, lenD, bTuple, bList, seqOf, itO_l, itO_t, itO_f, itO_d, valsOf, itmsOf, cEq_int, cNe_int, cLe_int, cLt_int, cGt_int, cGe_int, binD, addD, subD, bltD, isTy, D.ty, xi_tup, xi_lst, xi_flst, seqOf, asInt, if_true, if_false, Bool.false_eq_true, List.zip_nil_left, List.zip_nil_right, List.zip_cons_cons, decide_true, decide_false, Bool.not_true, Bool.not_false, Bool.and_self, Bool.true_and, Bool.and_true, Bool.or_false, Bool.false_or, sz0, sz1, sz2, sz3, sz4, sz8, tyc_tup, mthT_tup, mthD]) rfl (fun w hw => ?_) (len81 (all_len _ hq).1)]
    unfold compF
    have e0 : evTp (.nm 11) (dW w) (rho r most a b k y3 y4 (.own (lgD L)) y6 y9 (.val (dW wd))) = some [.val (.ref r), .val (.int most), .val (dWs (wOf a b)), y3, y4, .own (lgD L), y6, .val (dH a b), .val (.str (rS k)), y9, .val (dW wd), .val (dW w), .no, .no] := rfl
    have ei : evE (ct (m + 13)) (.lc (.cmp .Eq (.call "_law_total" [.loc 9, .loc 11] [] []) (.bor 13)) [9, 13] (.tp [.nm 9, .nm 13]) (.val (.bor 5)) none) [.val (.ref r), .val (.int most), .val (dWs (wOf a b)), y3, y4, .own (lgD L), y6, .val (dH a b), .val (.str (rS k)), y9, .val (dW wd), .val (dW w), .no, .no] = M.pure (.lst (L.map fun p => D.bl (decide (tot p.1 w = p.2)))) := by
      show evLc _ _ _ _ _ _ = _
      rw [lc_map (ρ' := [.val (.ref r), .val (.int most), .val (dWs (wOf a b)), y3, y4, .own (lgD L), y6, .val (dH a b), .val (.str (rS k)), .no, .val (dW wd), .val (dW w), .no, .no]) (l := L) (inj := fun p => .tup [tupF p.1, .int p.2]) (p := fun _ => true) (g := fun p => .bl (decide (tot p.1 w = p.2))) (by simp only [evSs, evS, evE, evEs, evI, evB, evO, runF, seqF, ifF, evSet, tst, pb, ofS, grdT, drf_tup, drf_lst, drf_flst, drf_int, drf_str, drf_bl, drf_non, etaP, getV, getB, setV, dropS, slot0, List.getElem?_cons_zero, List.getElem?_cons_succ, List.map_cons, List.map_nil, List.length_cons, List.length_nil, List.set_cons_zero, List.set_cons_succ, List.cons_append, List.nil_append, List.replicate, asBl, notD, evTp, evTps, bLen, lenD, bTuple, bList, seqOf, itO_l, itO_t, itO_f, itO_d, valsOf, itmsOf, cEq_int, cNe_int, cLe_int, cLt_int, cGt_int, cGe_int, binD, addD, subD, bltD, isTy, D.ty, xi_tup, xi_lst, xi_flst, seqOf, asInt, if_true, if_false, Bool.false_eq_true, List.zip_nil_left, List.zip_nil_right, List.zip_cons_cons, decide_true, decide_false, Bool.not_true, Bool.not_false, Bool.and_self, Bool.true_and, Bool.and_true, Bool.or_false, Bool.false_or, sz0, sz1, sz2, sz3, sz4, sz8, tyc_tup, mthT_tup, mthD]) (by rcases v9 with rfl | ⟨d, rfl⟩ <;> rfl) (fun p hp => ?_) (Nat.le_trans hL.len (by decide))]
      · rw [List.filter_eq_self.mpr (fun _ _ => rfl)]
      · have lt : (ct (m + 13)).fn ("_law_total" : Str) [tupF p.1, dW w] = M.pure (.int (tot p.1 w)) := s_law_total hq (m + 11) p.1 (hL.m p hp).1 w hw
        unfold compF
        generalize lgD L = LL
        generalize tupF p.1 = X at lt
        simp only [k__law_total, lt, evSs, evS, evE, evEs, evI, evB, evO, runF, seqF, ifF, evSet, tst, pb, ofS, grdT, drf_tup, drf_lst, drf_flst, drf_int, drf_str, drf_bl, drf_non, etaP, getV, getB, setV, dropS, slot0, List.getElem?_cons_zero, List.getElem?_cons_succ, List.map_cons, List.map_nil, List.length_cons, List.length_nil, List.set_cons_zero, List.set_cons_succ, List.cons_append, List.nil_append, List.replicate, asBl, notD, evTp, evTps, bLen, lenD, bTuple, bList, seqOf, itO_l, itO_t, itO_f, itO_d, valsOf, itmsOf, cEq_int, cNe_int, cLe_int, cLt_int, cGt_int, cGe_int, binD, addD, subD, bltD, isTy, D.ty, xi_tup, xi_lst, xi_flst, seqOf, asInt, if_true, if_false, Bool.false_eq_true, List.zip_nil_left, List.zip_nil_right, List.zip_cons_cons, decide_true, decide_false, Bool.not_true, Bool.not_false, Bool.and_self, Bool.true_and, Bool.and_true, Bool.or_false, Bool.false_or, sz0, sz1, sz2, sz3, sz4, sz8, tyc_tup, mthT_tup, mthD]
    have eb : bAll [.lst (L.map fun p => D.bl (decide (tot p.1 w = p.2)))] = some (.bl (fit L w)) := by
      have := all_bls (L.map fun p => decide (tot p.1 w = p.2))
      rw [List.map_map, List.all_map] at this
      exact this
    rw [e0, ofS, pb]
    show ((tst (evE (ct (m + 13)) _ _)).bind _) = _
    rw [blt1 (f := .all) rfl ei (fun _ => rfl) eb]
    cases fit L w <;> rfl
  exact set1 (blt1 (f := .tuple) (r := tupF ((wOf a b).filter (fit L))) rfl el (fun _ => rfl) rfl) (by rcases v4 with rfl | ⟨d, rfl⟩ <;> rfl)
end
def X1 : IE := .lst [.call "total" [.loc 7, .loc 9, .loc 10] [] [], .call "totals" [.loc 7, .loc 9] [] []]
def X2 : IE := .lst [.call "total" [] ["word", "some", "house"] [.loc 10, .loc 9, .loc 7], .call "totals" [] ["some", "house"] [.loc 9, .loc 7]]
def X3 : IE := .lst [.call "left_by_totals" [.loc 7, .blt .tuple [.bor 5]] [] [], .call "left_by_totals" [] ["log", "house"] [.blt .tuple [.bor 5], .loc 7]]
theorem right_body : d__law_right.body = [.tas [.nm 7, .nm 8] (.call "_law_house" [.loc 0, .loc 1] [] []),
 .set 2 (.call "_law_words" [.loc 7] [] []),
 .tas [.nm 9, .nm 10] (.tup [.call "_law_some" [.loc 0, .loc 2, .int 4] [] [], .call "_law_of" [.loc 0, .loc 2] [] []]),
 .set 3 (.lc (.call "_law_total" [.loc 9, .loc 11] [] []) [11] (.nm 11) (.val (.bor 2)) none),
 .set 4 (.lst [.call "_law_total" [.loc 9, .loc 10] [] [], .blt .tuple [.lc (.tup [.loc 12, .mth .count (.bor 3) [.loc 12]]) [12] (.nm 12) (.val (.sset (.bor 3))) none]]),
 .ite (.cmp .NotEq (.blt .repr [X1]) (.blt .repr [.bor 4])) [.ret (.bl false)] [],
 .ite (.cmp .NotEq (.blt .repr [X2]) (.blt .repr [.bor 4])) [.ret (.bl false)] [],
 .new 5 (.lst []),
 .for_ (.nm 6) (.rng1 (.call "_law_take" [.loc 0, .int 5] [] [])) lgB,
 .set 4 (.blt .tuple [.lc (.loc 11) [11] (.nm 11) (.val (.bor 2)) (some (.blt .all [.lc (.cmp .Eq (.call "_law_total" [.loc 9, .loc 11] [] []) (.bor 13)) [9, 13] (.tp [.nm 9, .nm 13]) (.val (.bor 5)) none]))]),
 .ret (.cmp .Eq (.blt .repr [X3]) (.blt .repr [.lst [.loc 4, .loc 4]]))] := rfl
theorem s_law_right (m r : Nat) (A : AH) (h : Bg r A) (most : Nat) (hm : most ∈ ([2, 3, 4, 5, 6, 7, 8] : List Nat)) : ∃ A', Bg r A' ∧ (ct (m + 14)).fn ("_law_right" : Str) [.ref r, .int (most : Int)] A = .ok (.bl true) A' := by
  obtain ⟨⟨a, b⟩, hq, k, A1, b1, e1⟩ := s_law_house (m + 10) r A h most hm
  have hq : (a, b) ∈ hs := hq
  have e1 : (ct (m + 13)).fn ("_law_house" : Str) [.ref r, .int (most : Int)] A = .ok (.tup [dH a b, .str (rS k)]) A1 := e1
  have s1 : evS (ct (m + 13)) (.tas [.nm 7, .nm 8] (.call "_law_house" [.loc 0, .loc 1] [] [])) [.val (.ref r), .val (.int (most : Int)), .no, .no, .no, .no, .no, .no, .no, .no, .no, .no, .no, .no] A = .ok (.nx [.val (.ref r), .val (.int (most : Int)), .no, .no, .no, .no, .no, .val (dH a b), .val (.str (rS k)), .no, .no, .no, .no, .no]) A1 := by
    refine asg_at (d := .tup [dH a b, .str (rS k)]) ?_ rfl
    simp only [k__law_house, evSs, evS, evE, evEs, evI, evB, evO, runF, seqF, ifF, evSet, tst, pb, ofS, grdT, drf_tup, drf_lst, drf_flst, drf_int, drf_str, drf_bl, drf_non, etaP, getV, getB, setV, dropS, slot0, List.getElem?_cons_zero, List.getElem?_cons_succ, List.map_cons, List.map_nil, List.length_cons, List.length_nil, List.set_cons_zero, List.set_cons_succ, List.cons_append, List.nil_append, List.replicate, asBl, notD, evTp, evTps, bLen, lenD, bTuple, bList, seqOf, itO_l, itO_t, itO_f, itO_d, valsOf, itmsOf, cEq_int, cNe_int, cLe_int, cLt_int, cGt_int, cGe_int, binD, addD, subD, bltD, isTy, D.ty, xi_tup, xi_lst, xi_flst, seqOf, asInt, if_true, if_false, Bool.false_eq_true, List.zip_nil_left, List.zip_nil_right, List.zip_cons_cons, decide_true, decide_false, Bool.not_true, Bool.not_false, Bool.and_self, Bool.true_and, Bool.and_true, Bool.or_false, Bool.false_or, sz0, sz1, sz2, sz3, sz4, sz8, tyc_tup, mthT_tup, mthD, M.bind, M.pure, e1]
  have s2 : evS (ct (m + 13)) (.set 2 (.call "_law_words" [.loc 7] [] [])) [.val (.ref r), .val (.int (most : Int)), .no, .no, .no, .no, .no, .val (dH a b), .val (.str (rS k)), .no, .no, .no, .no, .no] = M.pure (.nx (rho r (most : Int) a b k .no .no .no .no .no .no)) := by
    simp only [k__law_words, s_law_words _ _ _ hq, evSs, evS, evE, evEs, evI, evB, evO, runF, seqF, ifF, evSet, tst, pb, ofS, grdT, drf_tup, drf_lst, drf_flst, drf_int, drf_str, drf_bl, drf_non, etaP, getV, getB, setV, dropS, slot0, List.getElem?_cons_zero, List.getElem?_cons_succ, List.map_cons, List.map_nil, List.length_cons, List.length_nil, List.set_cons_zero, List.set_cons_succ, List.cons_append, List.nil_append, List.replicate, asBl, notD, evTp, evTps, bLen, lenD, bTuple, bList, seqOf, itO_l, itO_t, itO_f, itO_d, valsOf, itmsOf, cEq_int, cNe_int, cLe_int, cLt_int, cGt_int, cGe_int, binD, addD, subD, bltD, isTy, D.ty, xi_tup, xi_lst, xi_flst, seqOf, asInt, if_true, if_false, Bool.false_eq_true, List.zip_nil_left, List.zip_nil_right, List.zip_cons_cons, decide_true, decide_false, Bool.not_true, Bool.not_false, Bool.and_self, Bool.true_and, Bool.and_true, Bool.or_false, Bool.false_or, sz0, sz1, sz2, sz3, sz4, sz8, tyc_tup, mthT_tup, mthD]
  obtain ⟨S, A2, b2, hS, e3⟩ := s_law_some hq (m + 10) r A1 b1
  have e3 : (ct (m + 13)).fn ("_law_some" : Str) [.ref r, dWs (wOf a b), .int 4] A1 = .ok (tupF S) A2 := e3
  obtain ⟨wd, hwd, A3, b3, e4⟩ := of_w hq (m + 11) r A2 b2
  have e4 : (ct (m + 13)).fn ("_law_of" : Str) [.ref r, dWs (wOf a b)] A2 = .ok (dW wd) A3 := e4
  have s3 : evS (ct (m + 13)) (.tas [.nm 9, .nm 10] (.tup [.call "_law_some" [.loc 0, .loc 2, .int 4] [] [], .call "_law_of" [.loc 0, .loc 2] [] []])) (rho r (most : Int) a b k .no .no .no .no .no .no) A1 = .ok (.nx (rho r (most : Int) a b k .no .no .no .no (.val (tupF S)) (.val (dW wd)))) A3 := by
    refine asg_at (A1 := A3) (d := .tup [tupF S, dW wd]) ?_ rfl
    generalize tupF S = X at e3
    simp only [k__law_some, k__law_of, evSs, evS, evE, evEs, evI, evB, evO, runF, seqF, ifF, evSet, tst, pb, ofS, grdT, drf_tup, drf_lst, drf_flst, drf_int, drf_str, drf_bl, drf_non, etaP, getV, getB, setV, dropS, slot0, List.getElem?_cons_zero, List.getElem?_cons_succ, List.map_cons, List.map_nil, List.length_cons, List.length_nil, List.set_cons_zero, List.set_cons_succ, List.cons_append, List.nil_append, List.replicate, asBl, notD, evTp, evTps, bLen, lenD, bTuple, bList, seqOf, itO_l, itO_t, itO_f, itO_d, valsOf, itmsOf, cEq_int, cNe_int, cLe_int, cLt_int, cGt_int, cGe_int, binD, addD, subD, bltD, isTy, D.ty, xi_tup, xi_lst, xi_flst, seqOf, asInt, if_true, if_false, Bool.false_eq_true, List.zip_nil_left, List.zip_nil_right, List.zip_cons_cons, decide_true, decide_false, Bool.not_true, Bool.not_false, Bool.and_self, Bool.true_and, Bool.and_true, Bool.or_false, Bool.false_or, sz0, sz1, sz2, sz3, sz4, sz8, tyc_tup, mthT_tup, mthD, M.bind, M.pure, e3, e4]
  have s4 := e_sums hq m r k (most : Int) S hS wd
  have s5 := e_due hq m r k (most : Int) S hS wd hwd
  have f1 : (ct (m + 13)).fn ("total" : Str) [dH a b, tupF S, dW wd] = M.pure (.int (tot S wd)) := s_total hq (m + 3) S hS wd hwd
  have f2 : (ct (m + 13)).fn ("totals" : Str) [dH a b, tupF S] = M.pure (totT a b S) := s_totals hq (m + 4) S hS
  have x1 : evE (ct (m + 13)) X1 (rho r (most : Int) a b k (.val (smsD a b S)) (.val (dueD a b S wd)) .no .no (.val (tupF S)) (.val (dW wd))) = M.pure (dueD a b S wd) := by
    unfold dueD X1
    generalize smsD a b S = Y
    generalize totT a b S = T at f2
    generalize tupF S = X at f1 f2
    simp only [k_total, k_totals, f1, f2, evSs, evS, evE, evEs, evI, evB, evO, runF, seqF, ifF, evSet, tst, pb, ofS, grdT, drf_tup, drf_lst, drf_flst, drf_int, drf_str, drf_bl, drf_non, etaP, getV, getB, setV, dropS, slot0, List.getElem?_cons_zero, List.getElem?_cons_succ, List.map_cons, List.map_nil, List.length_cons, List.length_nil, List.set_cons_zero, List.set_cons_succ, List.cons_append, List.nil_append, List.replicate, asBl, notD, evTp, evTps, bLen, lenD, bTuple, bList, seqOf, itO_l, itO_t, itO_f, itO_d, valsOf, itmsOf, cEq_int, cNe_int, cLe_int, cLt_int, cGt_int, cGe_int, binD, addD, subD, bltD, isTy, D.ty, xi_tup, xi_lst, xi_flst, seqOf, asInt, if_true, if_false, Bool.false_eq_true, List.zip_nil_left, List.zip_nil_right, List.zip_cons_cons, decide_true, decide_false, Bool.not_true, Bool.not_false, Bool.and_self, Bool.true_and, Bool.and_true, Bool.or_false, Bool.false_or, sz0, sz1, sz2, sz3, sz4, sz8, tyc_tup, mthT_tup, mthD]
  have x2 : evE (ct (m + 13)) X2 (rho r (most : Int) a b k (.val (smsD a b S)) (.val (dueD a b S wd)) .no .no (.val (tupF S)) (.val (dW wd))) = M.pure (dueD a b S wd) := by
    unfold dueD X2
    generalize smsD a b S = Y
    generalize totT a b S = T at f2
    generalize tupF S = X at f1 f2
    simp only [kw_total, kw_totals, f1, f2, evSs, evS, evE, evEs, evI, evB, evO, runF, seqF, ifF, evSet, tst, pb, ofS, grdT, drf_tup, drf_lst, drf_flst, drf_int, drf_str, drf_bl, drf_non, etaP, getV, getB, setV, dropS, slot0, List.getElem?_cons_zero, List.getElem?_cons_succ, List.map_cons, List.map_nil, List.length_cons, List.length_nil, List.set_cons_zero, List.set_cons_succ, List.cons_append, List.nil_append, List.replicate, asBl, notD, evTp, evTps, bLen, lenD, bTuple, bList, seqOf, itO_l, itO_t, itO_f, itO_d, valsOf, itmsOf, cEq_int, cNe_int, cLe_int, cLt_int, cGt_int, cGe_int, binD, addD, subD, bltD, isTy, D.ty, xi_tup, xi_lst, xi_flst, seqOf, asInt, if_true, if_false, Bool.false_eq_true, List.zip_nil_left, List.zip_nil_right, List.zip_cons_cons, decide_true, decide_false, Bool.not_true, Bool.not_false, Bool.and_self, Bool.true_and, Bool.and_true, Bool.or_false, Bool.false_or, sz0, sz1, sz2, sz3, sz4, sz8, tyc_tup, mthT_tup, mthD]
  have s6 := e_cmp hq m r k (most : Int) S hS wd hwd X1 x1 rfl
  have s7 := e_cmp hq m r k (most : Int) S hS wd hwd X2 x2 rfl
  have s8 : evS (ct (m + 13)) (.new 5 (.lst [])) (rho r (most : Int) a b k (.val (smsD a b S)) (.val (dueD a b S wd)) .no .no (.val (tupF S)) (.val (dW wd))) = M.pure (.nx (rho r (most : Int) a b k (.val (smsD a b S)) (.val (dueD a b S wd)) (.own (lgD [])) .no (.val (tupF S)) (.val (dW wd)))) := rfl
  obtain ⟨t, A4, t0, t1, b4, e9⟩ := s_law_take (m + 12) r A3 5 b3 (by decide) (by decide)
  have e9 : (ct (m + 13)).fn ("_law_take" : Str) [.ref r, .int 5] A3 = .ok (.int t) A4 := e9
  have er : evI (ct (m + 13)) (.rng1 (.call "_law_take" [.loc 0, .int 5] [] [])) (rho r (most : Int) a b k (.val (smsD a b S)) (.val (dueD a b S wd)) (.own (lgD [])) .no (.val (tupF S)) (.val (dW wd))) A3 = .ok ((List.range' 0 t.toNat).map fun (j : Nat) => D.int (j : Int)) A4 := by
    have hr := rng_ok t t0 (by omega)
    have hr' : decide (-(2 ^ 62) ≤ t) = true ∧ decide (t < 2 ^ 62) = true := by
      simpa only [Bool.and_eq_true] using hr
    rw [← rangeD_r]
    generalize smsD a b S = Y
    generalize dueD a b S wd = T
    generalize tupF S = X
    simp only [k__law_take, evSs, evS, evE, evEs, evI, evB, evO, runF, seqF, ifF, evSet, tst, pb, ofS, grdT, drf_tup, drf_lst, drf_flst, drf_int, drf_str, drf_bl, drf_non, etaP, getV, getB, setV, dropS, slot0, List.getElem?_cons_zero, List.getElem?_cons_succ, List.map_cons, List.map_nil, List.length_cons, List.length_nil, List.set_cons_zero, List.set_cons_succ, List.cons_append, List.nil_append, List.replicate, asBl, notD, evTp, evTps, bLen, lenD, bTuple, bList, seqOf, itO_l, itO_t, itO_f, itO_d, valsOf, itmsOf, cEq_int, cNe_int, cLe_int, cLt_int, cGt_int, cGe_int, binD, addD, subD, bltD, isTy, D.ty, xi_tup, xi_lst, xi_flst, seqOf, asInt, if_true, if_false, Bool.false_eq_true, List.zip_nil_left, List.zip_nil_right, List.zip_cons_cons, decide_true, decide_false, Bool.not_true, Bool.not_false, Bool.and_self, Bool.true_and, Bool.and_true, Bool.or_false, Bool.false_or, sz0, sz1, sz2, sz3, sz4, sz8, tyc_tup, mthT_tup, mthD, M.bind, M.pure, e9, grd, hr'.1, hr'.2]
  obtain ⟨ρ', A5, e10, L, y6, y9, b5, hL, hl, v6, v9, rfl⟩ := loop_invA (t := .nm 6) (g := fun q => evSs (ct (m + 13)) lgB q) (inj := fun (j : Nat) => D.int (j : Int)) (fun done ρ A => ∃ L y6 y9, Bg r A ∧ (∀ p ∈ L, isS a b p.1 ∧ 0 ≤ p.2 ∧ p.2 ≤ a * (p.1.length : Int)) ∧ L.length = done.length ∧ vN y6 ∧ vN y9 ∧ ρ = rho r (most : Int) a b k (.val (smsD a b S)) (.val (dueD a b S wd)) (.own (lgD L)) y6 y9 (.val (dW wd))) (List.range' 0 t.toNat) [] (rho r (most : Int) a b k (.val (smsD a b S)) (.val (dueD a b S wd)) (.own (lgD [])) .no (.val (tupF S)) (.val (dW wd))) A4 (by
    rintro d x rr ρ A e ⟨L, y6, y9, hb, hL, hl, v6, v9, rfl⟩
    rw [List.nil_append] at e
    have hdl : d.length < 5 := by
      have := congrArg List.length e
      rw [List.length_range'] at this
      simp only [List.length_append, List.length_cons] at this
      omega
    obtain ⟨S', t', A', hS', h0, h1, hb', es⟩ := lg_step hq m r k (most : Int) (.val (smsD a b S)) (.val (dueD a b S wd)) y6 y9 v6 v9 wd hwd (x : Int) L hL (by omega) A hb
    refine ⟨_, A', es, L ++ [(S', t')], .val (.int (x : Int)), .val (tupF S'), hb', fun p hp => ?_, by rw [List.length_append, List.length_append, hl]; rfl, .inr ⟨_, rfl⟩, .inr ⟨_, rfl⟩, rfl⟩
    rcases List.mem_append.mp hp with hp | hp
    · exact hL p hp
    · rw [List.mem_singleton] at hp
      rw [hp]
      exact ⟨hS', h0, h1⟩) ⟨[], .no, .val (tupF S), b4, (fun _ h => by cases h), rfl, .inl rfl, .inr ⟨_, rfl⟩, rfl⟩
  have hl4 : L.length ≤ 4 := by
    rw [hl, List.nil_append, List.length_range']
    omega
  have oL : isL a b L := ⟨hL, hl4⟩
  have s11 := e_left hq m r k (most : Int) S (.val (smsD a b S)) (.val (dueD a b S wd)) y6 y9 (.inr ⟨_, rfl⟩) v9 wd L oL
  have f3 : (ct (m + 13)).fn ("left_by_totals" : Str) [dH a b, .tup (lgD L)] = M.pure (tupF ((wOf a b).filter (fit L))) := s_left_by_totals hq m L oL
  have hlen : ((wOf a b).filter (fit L)).length ≤ 81 := Nat.le_trans (List.length_filter_le _ _) (all_len _ hq).1
  have hmem : ∀ w ∈ (wOf a b).filter (fit L), w ∈ wOf a b := fun w hw => (List.mem_filter.mp hw).1
  have sT : shd (81 * (4 * (1921 + 2) + 3 + 2) + 3) (tupF ((wOf a b).filter (fit L))) := shd_tup (fun x hx => by
    obtain ⟨w, hw, rfl⟩ := List.mem_map.mp hx
    exact small_w hq (hmem w hw)) (by rw [List.length_map]; exact hlen)
  have oT : okd 3 (tupF ((wOf a b).filter (fit L))) := okd_tup (k := 2) fun x hx => by
    obtain ⟨w, _, rfl⟩ := List.mem_map.mp hx
    exact okd_dW
  have rp := repr_ok (shd_two sT) ((ok_two oT).ok (by decide)) (by decide)
  have cq : cmpD .Eq (.str (D.lst [tupF ((wOf a b).filter (fit L)), tupF ((wOf a b).filter (fit L))]).py.shown) (.str (D.lst [tupF ((wOf a b).filter (fit L)), tupF ((wOf a b).filter (fit L))]).py.shown) = some true := cEq_self (shown_ok (shd_two sT))
  have x3 : evE (ct (m + 13)) X3 (rho r (most : Int) a b k (.val (smsD a b S)) (.val (tupF ((wOf a b).filter (fit L)))) (.own (lgD L)) y6 y9 (.val (dW wd))) = M.pure (.lst [tupF ((wOf a b).filter (fit L)), tupF ((wOf a b).filter (fit L))]) := by
    unfold X3
    generalize smsD a b S = Y
    generalize tupF ((wOf a b).filter (fit L)) = T at f3
    generalize lgD L = LL at f3
    simp only [k_left_by_totals, kw_left, f3, evSs, evS, evE, evEs, evI, evB, evO, runF, seqF, ifF, evSet, tst, pb, ofS, grdT, drf_tup, drf_lst, drf_flst, drf_int, drf_str, drf_bl, drf_non, etaP, getV, getB, setV, dropS, slot0, List.getElem?_cons_zero, List.getElem?_cons_succ, List.map_cons, List.map_nil, List.length_cons, List.length_nil, List.set_cons_zero, List.set_cons_succ, List.cons_append, List.nil_append, List.replicate, asBl, notD, evTp, evTps, bLen, lenD, bTuple, bList, seqOf, itO_l, itO_t, itO_f, itO_d, valsOf, itmsOf, cEq_int, cNe_int, cLe_int, cLt_int, cGt_int, cGe_int, binD, addD, subD, bltD, isTy, D.ty, xi_tup, xi_lst, xi_flst, seqOf, asInt, if_true, if_false, Bool.false_eq_true, List.zip_nil_left, List.zip_nil_right, List.zip_cons_cons, decide_true, decide_false, Bool.not_true, Bool.not_false, Bool.and_self, Bool.true_and, Bool.and_true, Bool.or_false, Bool.false_or, sz0, sz1, sz2, sz3, sz4, sz8, tyc_tup, mthT_tup, mthD]
  have x4 : evE (ct (m + 13)) (.lst [.loc 4, .loc 4]) (rho r (most : Int) a b k (.val (smsD a b S)) (.val (tupF ((wOf a b).filter (fit L)))) (.own (lgD L)) y6 y9 (.val (dW wd))) = M.pure (.lst [tupF ((wOf a b).filter (fit L)), tupF ((wOf a b).filter (fit L))]) := rfl
  have fin : evSs (ct (m + 13)) [.ret (.cmp .Eq (.blt .repr [X3]) (.blt .repr [.lst [.loc 4, .loc 4]]))] (rho r (most : Int) a b k (.val (smsD a b S)) (.val (tupF ((wOf a b).filter (fit L)))) (.own (lgD L)) y6 y9 (.val (dW wd))) = M.pure (.rt (.bl true)) := by
    have ec := cmp1 (op := .Eq) (blt1 (f := .repr) rfl x3 (fun _ => rfl) rp) (blt1 (f := .repr) rfl x4 (fun _ => rfl) rp) cq
    show (((evE (ct (m + 13)) _ _).bind fun d => M.pure (Fl.rt d)).bind _) = _
    rw [ec]
    rfl
  refine ⟨A5, b5, ?_⟩
  rw [c__law_right, right_body]
  refine runF_at (ρ := [.val (.ref r), .val (.int (most : Int)), .no, .no, .no, .no, .no, .no, .no, .no, .no, .no, .no, .no]) rfl ?_
  rw [sq_ne s1, sq_nx s2, sq_ne s3, sq_nx s4, sq_nx s5, sq_nx s6, sq_nx s7, sq_nx s8, sq_ne (for_ne er e10), sq_nx s11, fin]
  rfl
def mostB : List IS := [.ite (.not (.call "_law_right" [.loc 2, .loc 3] [] [])) [.ret (.bl false)] []]
def lapB : List IS := [.set 2 (.call "_law_pool" [.loc 0, .loc 1] [] []), .for_ (.nm 3) (.val (.lst [.int 6, .int 4, .int 2, .int 5, .int 6])) mostB]
theorem law_body : d_law.body = [.for_ (.nm 1) (.rng1 (.blt .max2 [.int 2, .blt .min2 [.blt .len [.bor 0], .int 3]])) lapB, .ret (.bl true)] := rfl
theorem lap_step (m : Nat) (ns : List Int) (i : Int) (A : AH) (ρ : Ev.Env) (hr : ∃ y1 y2 y3, vN y1 ∧ vN y2 ∧ vN y3 ∧ ρ = [.val (.flst (ns.map .int)), y1, y2, y3]) : ∃ (ρ' : Ev.Env) (A' : AH), ((ofO (evTp (.nm 1) (.int i) ρ)).bind fun q => evSs (ct (m + 14)) lapB q) A = .ok (.nx ρ') A' ∧ ∃ y1 y2 y3, vN y1 ∧ vN y2 ∧ vN y3 ∧ ρ' = [.val (.flst (ns.map .int)), y1, y2, y3] := by
  obtain ⟨y1, y2, y3, v1, v2, v3, rfl⟩ := hr
  have ev : evTp (.nm 1) (.int i) [.val (.flst (ns.map .int)), y1, y2, y3] = some [.val (.flst (ns.map .int)), .val (.int i), y2, y3] := by
    rcases v1 with rfl | ⟨d, rfl⟩ <;> rfl
  obtain ⟨p0, p1, ep⟩ := s_law_pool (m + 13) A ns i
  have hb : Bg A.length (A ++ [.lst [.int p0, .int p1, .int 0]]) := ⟨p0, p1, 0, by simp⟩
  have s1 : evS (ct (m + 14)) (.set 2 (.call "_law_pool" [.loc 0, .loc 1] [] [])) [.val (.flst (ns.map .int)), .val (.int i), y2, y3] A = .ok (.nx [.val (.flst (ns.map .int)), .val (.int i), .val (.ref A.length), y3]) (A ++ [.lst [.int p0, .int p1, .int 0]]) := by
    rcases v2 with rfl | ⟨d, rfl⟩ <;> simp only [k__law_pool, evSs, evS, evE, evEs, evI, evB, evO, runF, seqF, ifF, evSet, tst, pb, ofS, grdT, drf_tup, drf_lst, drf_flst, drf_int, drf_str, drf_bl, drf_non, etaP, getV, getB, setV, dropS, slot0, List.getElem?_cons_zero, List.getElem?_cons_succ, List.map_cons, List.map_nil, List.length_cons, List.length_nil, List.set_cons_zero, List.set_cons_succ, List.cons_append, List.nil_append, List.replicate, asBl, notD, evTp, evTps, bLen, lenD, bTuple, bList, seqOf, itO_l, itO_t, itO_f, itO_d, valsOf, itmsOf, cEq_int, cNe_int, cLe_int, cLt_int, cGt_int, cGe_int, binD, addD, subD, bltD, isTy, D.ty, xi_tup, xi_lst, xi_flst, seqOf, asInt, if_true, if_false, Bool.false_eq_true, List.zip_nil_left, List.zip_nil_right, List.zip_cons_cons, decide_true, decide_false, Bool.not_true, Bool.not_false, Bool.and_self, Bool.true_and, Bool.and_true, Bool.or_false, Bool.false_or, sz0, sz1, sz2, sz3, sz4, sz8, tyc_tup, mthT_tup, mthD, M.bind, M.pure, ep]
  have er : evI (ct (m + 14)) (.val (.lst [.int 6, .int 4, .int 2, .int 5, .int 6])) [.val (.flst (ns.map .int)), .val (.int i), .val (.ref A.length), y3] (A ++ [.lst [.int p0, .int p1, .int 0]]) = .ok (([6, 4, 2, 5, 6] : List Nat).map fun (j : Nat) => D.int (j : Int)) (A ++ [.lst [.int p0, .int p1, .int 0]]) := rfl
  obtain ⟨ρ', A2, e2, y3', b2, v3', rfl⟩ := loop_invA (t := .nm 3) (g := fun q => evSs (ct (m + 14)) mostB q) (inj := fun (j : Nat) => D.int (j : Int)) (fun _ ρ A' => ∃ y3, Bg A.length A' ∧ vN y3 ∧ ρ = [.val (.flst (ns.map .int)), .val (.int i), .val (.ref A.length), y3]) ([6, 4, 2, 5, 6] : List Nat) [] [.val (.flst (ns.map .int)), .val (.int i), .val (.ref A.length), y3] (A ++ [.lst [.int p0, .int p1, .int 0]]) (by
    rintro d x rr ρ A' e ⟨y3, hb, v3, rfl⟩
    rw [List.nil_append] at e
    have hx : x ∈ ([6, 4, 2, 5, 6] : List Nat) := by rw [e]; simp
    obtain ⟨A3, b3, e3⟩ := s_law_right m A.length A' hb x (by
      simp only [List.mem_cons, List.not_mem_nil, or_false] at hx ⊢
      omega)
    refine ⟨[.val (.flst (ns.map .int)), .val (.int i), .val (.ref A.length), .val (.int (x : Int))], A3, ?_, .val (.int (x : Int)), b3, .inr ⟨_, rfl⟩, rfl⟩
    have ev : evTp (.nm 3) (.int (x : Int)) [.val (.flst (ns.map .int)), .val (.int i), .val (.ref A.length), y3] = some [.val (.flst (ns.map .int)), .val (.int i), .val (.ref A.length), .val (.int (x : Int))] := by
      rcases v3 with rfl | ⟨d, rfl⟩ <;> rfl
    rw [ev, ofS, pb]
    simp only [mostB, k__law_right, evSs, evS, evE, evEs, evI, evB, evO, runF, seqF, ifF, evSet, tst, pb, ofS, grdT, drf_tup, drf_lst, drf_flst, drf_int, drf_str, drf_bl, drf_non, etaP, getV, getB, setV, dropS, slot0, List.getElem?_cons_zero, List.getElem?_cons_succ, List.map_cons, List.map_nil, List.length_cons, List.length_nil, List.set_cons_zero, List.set_cons_succ, List.cons_append, List.nil_append, List.replicate, asBl, notD, evTp, evTps, bLen, lenD, bTuple, bList, seqOf, itO_l, itO_t, itO_f, itO_d, valsOf, itmsOf, cEq_int, cNe_int, cLe_int, cLt_int, cGt_int, cGe_int, binD, addD, subD, bltD, isTy, D.ty, xi_tup, xi_lst, xi_flst, seqOf, asInt, if_true, if_false, Bool.false_eq_true, List.zip_nil_left, List.zip_nil_right, List.zip_cons_cons, decide_true, decide_false, Bool.not_true, Bool.not_false, Bool.and_self, Bool.true_and, Bool.and_true, Bool.or_false, Bool.false_or, sz0, sz1, sz2, sz3, sz4, sz8, tyc_tup, mthT_tup, mthD, M.bind, M.pure, e3]) ⟨y3, hb, v3, rfl⟩
  refine ⟨[.val (.flst (ns.map .int)), .val (.int i), .val (.ref A.length), y3'], A2, ?_, _, _, _, .inr ⟨_, rfl⟩, .inr ⟨_, rfl⟩, v3', rfl⟩
  unfold lapB
  rw [ev, ofS, pb, sq_ne s1, sq_ne (for_ne er e2)]
  rfl
theorem s_law (m : Nat) (ns : List Int) (hl : ns.length ≤ 63) (A : AH) : ∃ A', (ct (m + 15)).fn ("law" : Str) [.flst (ns.map .int)] A = .ok (.bl true) A' := by
  rw [c_law, law_body]
  have mx : ∃ n : Nat, n ≤ 3 ∧ evE (ct (m + 14)) (.blt .max2 [.int 2, .blt .min2 [.blt .len [.bor 0], .int 3]]) [.val (.flst (ns.map .int)), .no, .no, .no] = M.pure (.int (n : Int)) := by
    by_cases h : ns.length ≤ 2
    · refine ⟨2, by omega, ?_⟩
      have h1 : bMin2 [.int (ns.length : Int), .int 3] = some (.int (ns.length : Int)) := by
        show some (D.int (if (3 : Int) < (ns.length : Int) then 3 else (ns.length : Int))) = _
        rw [if_neg (by omega)]
      have h2 : bMax2 [.int 2, .int (ns.length : Int)] = some (.int 2) := by
        show some (D.int (if (ns.length : Int) > 2 then (ns.length : Int) else 2)) = _
        rw [if_neg (by omega)]
      simp only [evSs, evS, evE, evEs, evI, evB, evO, runF, seqF, ifF, evSet, tst, pb, ofS, grdT, drf_tup, drf_lst, drf_flst, drf_int, drf_str, drf_bl, drf_non, etaP, getV, getB, setV, dropS, slot0, List.getElem?_cons_zero, List.getElem?_cons_succ, List.map_cons, List.map_nil, List.length_cons, List.length_nil, List.set_cons_zero, List.set_cons_succ, List.cons_append, List.nil_append, List.replicate, asBl, notD, evTp, evTps, bLen, lenD, bTuple, bList, seqOf, itO_l, itO_t, itO_f, itO_d, valsOf, itmsOf, cEq_int, cNe_int, cLe_int, cLt_int, cGt_int, cGe_int, binD, addD, subD, bltD, isTy, D.ty, xi_tup, xi_lst, xi_flst, seqOf, asInt, if_true, if_false, Bool.false_eq_true, List.zip_nil_left, List.zip_nil_right, List.zip_cons_cons, decide_true, decide_false, Bool.not_true, Bool.not_false, Bool.and_self, Bool.true_and, Bool.and_true, Bool.or_false, Bool.false_or, sz0, sz1, sz2, sz3, sz4, sz8, tyc_tup, mthT_tup, mthD, List.length_map, h1, h2]
      rfl
    · refine ⟨3, by omega, ?_⟩
      have h1 : bMin2 [.int (ns.length : Int), .int 3] = some (.int 3) := by
        show some (D.int (if (3 : Int) < (ns.length : Int) then 3 else (ns.length : Int))) = _
        by_cases q : (3 : Int) < (ns.length : Int)
        · rw [if_pos q]
        · rw [if_neg q]
          have : (ns.length : Int) = 3 := by omega
          rw [this]
      have h2 : bMax2 [.int 2, .int 3] = some (.int 3) := rfl
      simp only [evSs, evS, evE, evEs, evI, evB, evO, runF, seqF, ifF, evSet, tst, pb, ofS, grdT, drf_tup, drf_lst, drf_flst, drf_int, drf_str, drf_bl, drf_non, etaP, getV, getB, setV, dropS, slot0, List.getElem?_cons_zero, List.getElem?_cons_succ, List.map_cons, List.map_nil, List.length_cons, List.length_nil, List.set_cons_zero, List.set_cons_succ, List.cons_append, List.nil_append, List.replicate, asBl, notD, evTp, evTps, bLen, lenD, bTuple, bList, seqOf, itO_l, itO_t, itO_f, itO_d, valsOf, itmsOf, cEq_int, cNe_int, cLe_int, cLt_int, cGt_int, cGe_int, binD, addD, subD, bltD, isTy, D.ty, xi_tup, xi_lst, xi_flst, seqOf, asInt, if_true, if_false, Bool.false_eq_true, List.zip_nil_left, List.zip_nil_right, List.zip_cons_cons, decide_true, decide_false, Bool.not_true, Bool.not_false, Bool.and_self, Bool.true_and, Bool.and_true, Bool.or_false, Bool.false_or, sz0, sz1, sz2, sz3, sz4, sz8, tyc_tup, mthT_tup, mthD, List.length_map, h1, h2]
      rfl
  obtain ⟨n, hn, en⟩ := mx
  have er := rng1_nat en (Nat.le_trans hn (by decide))
  rw [rangeD_r] at er
  obtain ⟨ρ', A', e, y1, y2, y3, _, _, _, rfl⟩ := loop_invA (t := .nm 1) (g := fun q => evSs (ct (m + 14)) lapB q) (inj := fun (j : Nat) => D.int (j : Int)) (fun _ ρ _ => ∃ y1 y2 y3, vN y1 ∧ vN y2 ∧ vN y3 ∧ ρ = [.val (.flst (ns.map .int)), y1, y2, y3]) (List.range' 0 n) [] [.val (.flst (ns.map .int)), .no, .no, .no] A (by
    rintro d x rr ρ A e hr
    exact lap_step m ns (x : Int) A ρ hr) ⟨.no, .no, .no, .inl rfl, .inl rfl, .inl rfl, rfl⟩
  refine ⟨A', ?_⟩
  refine runF_at (ρ := [.val (.flst (ns.map .int)), .no, .no, .no]) rfl ?_
  have er' : evI (ct (m + 14)) (.rng1 (.blt .max2 [.int 2, .blt .min2 [.blt .len [.bor 0], .int 3]])) [.val (.flst (ns.map .int)), .no, .no, .no] A = .ok ((List.range' 0 n).map fun (j : Nat) => D.int (j : Int)) A := by rw [er]; rfl
  rw [sq_ne (for_ne er' e)]
  rfl

end K46
end
section
set_option maxHeartbeats 0
open PySem PySem.W PySem.Calls PyProof.Rows
theorem PySem.Challenge.cw_guesswords_k46_totals_holds : PySem.Challenge.rw_guesswords_k46_totals.Holds := by
  w_on; o_law
  refine HandSHeadRun.head_any (r := OpenLaw.row PySem.Challenge.rw_guesswords_k46_totals) (q := view (OpenLaw.row PySem.Challenge.rw_guesswords_k46_totals).prog [51]) (H := K46.hk) (ob := K46.ob) (M := 4000) (loose := K46.loose)
    (d := HandSHeadRun.topDef (OpenLaw.row PySem.Challenge.rw_guesswords_k46_totals).prog 51) (kwd := []) K46.ob_eq
    (by kernel_rfl) (fun s => by kernel_rfl) K46.run (by kernel_rfl) (by kernel_rfl) (by kernel_rfl) (by rfl) (by first | assumption | decide +kernel) (by decide +kernel) ⟨rfl, rfl, rfl, rfl, rfl, by decide +kernel⟩ ?hw ?hc
  case hw => w_witness2
  case hc => exact Ev.law_walk (l := PySem.Challenge.rw_guesswords_k46_totals) (dl := K46.d_law) (wf := 100) (k := 20) K46.chk rfl (by kernel_rfl) (by kernel_rfl) ⟨rfl, by decide, by decide⟩ (by kernel_rfl) rfl (by decide +kernel) fun ns hl _ => K46.s_law 5 ns hl _
end
