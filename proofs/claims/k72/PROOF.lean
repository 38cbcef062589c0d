import PyProof.Rows.All
import Wide.All
import OpenK.AllK
import Wide.FinOn
import HandS.ForMost
import HandS.TupAny
import HandS.Strs
import KE.KIndexOf
import HandS.ExcOwn
import HandS.ExcIs
import HandS.TupLe
import HandS.Deep
import HandS.IsInst
import HandS.NoneIn
import HandS.Style
import KE.DataMinMax
import KE.SortData
import KE.KTupSum
import KE.KSortedM
import HandS.Flt
import HandS.SortInts
import HandS.Zip
import KE.GoesMore
import KE.DataFind
import KE.DataEq
import HandS.SetFor
import HandS.WordsExc
import HandS.ExcValue
import HandS.Conv
import KE.KFmtOwn
import HandS.FStr
import HandS.Text
import KE.KCallOwn
import HandS.Iter
import HandS.Dict
import HandS.Steps
import PyProof.ListStr
import PyProof.Rows.StrSplitJoin
import PySem.Challenge.RW_fourbars_k72_whole_texts
set_option linter.all false
set_option Elab.async false
section
set_option maxHeartbeats 2000000
set_option maxRecDepth 100000
/-! Tuples that are known to the object: nothing hangs on them. -/
namespace L2
open PySem PySem.Spec PyProof.Rows HT
section
variable {X : Cx}
/-- a new tuple, known to its object -/
abbrev NewT (H : Hp) (xs : List V) (Q : VK) : Prop := ∀ (p : Addr) (ob : Obj), H p = none → ob.cls = .type "tuple" → ob.dict = none → Q (.ref p) (upd H p (.frz ob (.tup xs)))
theorem laidT {pins : List (Addr × Obj)} {s : Shared} {σ : L2.St} {H : Hp} {xs : List V} {us : List Value} {Q : VK} (I : Inv X pins σ H s) (z : xs.length ≤ sizeLine) (r : Vals xs us) (q : NewT H xs Q) :
    EP X pins σ Q (.ref s.heap.objs.size) { s with heap := s.heap.push { cls := .type "tuple", data := .seq us.toArray } } :=
  ⟨.ref _, _, I.laid (t' := s.toks) (o := .frz _ (.tup xs)) (fun c g e => Heap.get?_push_of_some _ e) (Nat.le_refl _) ⟨Heap.get?_push_size _ rfl, z, us, r, IsTup.new _ _⟩, rfl, q _ _ (I.hok.fresh (Nat.le_refl _)) rfl rfl⟩
/-- a display -/
def tTupF (t : TA) : TE := fun σ H Q => t σ H fun xs H1 => xs.length ≤ sizeLine ∧ NewT H1 xs Q
theorem pe_tupF {es : List Expr} {t : TA} {pos : Pos} {x1} (h : PA X es t) : PE X (.Tuple es x1 pos) (tTupF t) := ⟨fun pins s σ H Q I hq =>
  wpAny_Tuple_spliced (thn (h.run pos pins s σ H _ I hq) fun us s1 ⟨xs, H1, I1, r, z, q⟩ => ⟨(show us.length ≤ sizeLine by rw [← r.length]; exact z), laidT I1 z r q⟩)⟩
/-- t + u -/
def rCatF (K : PySem.W.Frag) : R2 := fun x y H Q => ∃ a b xs ys, x = .ref a ∧ y = .ref b ∧ SqT K H a xs ∧ SqT K H b ys ∧ xs.length + ys.length ≤ sizeLine ∧
  (xs = [] → Q (.ref b) H) ∧ (xs ≠ [] → ys = [] → Q (.ref a) H) ∧ (xs ≠ [] → ys ≠ [] → NewT H (xs ++ ys) Q)
theorem op_catF : OpR X (binaryOp .Add) (rCatF X.K) := fun pins s σ H x y v u Q I rx ry ⟨a, b, xs, ys, e1, e2, ha, hb, hz, q0, q1, q2⟩ => by
  subst e1 e2
  cases rx
  cases ry
  obtain ⟨its, r1, p1, _⟩ := I.tuple ha
  obtain ⟨its2, r2, p2, _⟩ := I.tuple hb
  by_cases hx : xs = []
  · subst hx; cases r1
    exact cat_tup0 p1 p2 ⟨.ref b, H, I, rfl, q0 rfl⟩
  · exact cat_tup p1 p2 (fun g => hx (r1.nil_iff.mp g)) (fun g => ⟨.ref a, H, I, rfl, q1 hx (r2.nil_iff.mp g)⟩)
      (fun g => laidT I (by rw [List.length_append]; exact hz) (r1.append r2) (q2 hx fun e => g (r2.nil_iff.mpr e))) (by rw [← r1.length, ← r2.length]; exact hz)
/-- t[lo:hi] -/
def rSlF (K : PySem.W.Frag) : V → Option Int → Option Int → Hp → VK → Prop := fun x lo hi H Q => ∃ a xs, x = .ref a ∧ SqT K H a xs ∧
  (sIx xs.length 0 lo = 0 ∧ sIx xs.length xs.length hi = xs.length → Q (.ref a) H) ∧ (¬ (sIx xs.length 0 lo = 0 ∧ sIx xs.length xs.length hi = xs.length) → NewT H (cutV xs lo hi) Q)
theorem sl_tupF : SlR X (rSlF X.K) := fun pins s σ H x v vl vu lo hi sl Q I rx hs pl pu ⟨a, xs, e, hx, q1, q2⟩ => by
  subst e
  cases rx
  obtain ⟨its, r, ht, hz⟩ := I.tuple hx
  have hn : its.toArray.size = xs.length := (List.size_toArray ..).trans r.length.symm
  refine ⟨"tuple", _, PyProof.Rows.slot_tuple_getitem.lookup, ht.typeIs, ?_⟩
  by_cases hw : sIx xs.length 0 lo = 0 ∧ sIx xs.length xs.length hi = xs.length
  · exact getItem_tuple_whole ht hs pl pu (hn.symm ▸ hw) ⟨.ref a, H, I, rfl, q1 hw⟩
  · refine getItem_tuple_cut ht hs pl pu (hn.symm ▸ hw) ?_ (hn.symm ▸ hz)
    rw [hn]
    exact laidT I (Nat.le_trans (cutV_length xs lo hi) hz) ((r.drop _).take _) (q2 hw)
/-- tuple(x) -/
theorem call_tupleF : CallR X (.type "tuple") (fun xs H Q => ∃ p ys, xs = [.ref p] ∧ ((SqL X.K H p ys ∧ NewT H ys Q) ∨ (SqT X.K H p ys ∧ Q (.ref p) H))) := fun pins s σ H xs us Q I r ⟨p, ys, e, h⟩ => by
  subst e
  obtain ⟨u, rfl, rx⟩ := vals1 r
  cases rx
  rcases h with ⟨hq, q⟩ | ⟨hq, q⟩
  · obtain ⟨its, r', pl, hz⟩ := I.list hq
    have hn := r'.length
    exact call_tuple_list pl.isList (fun h' kp => laidT (s := { s with heap := h' }) (I.kept (t' := s.toks) kp) hz r' q) (by rw [List.size_toArray]; omega)
  · obtain ⟨its, r', pl, hz⟩ := I.tuple hq
    exact call_tuple_same pl ⟨.ref p, H, I, rfl, q⟩
/-- a tuple to which nothing hangs -/
def PlT (K : PySem.W.Frag) (H : Hp) (a : Addr) : Prop := (∃ ob u, H a = some (.frz ob u) ∧ ob.cls = .type "tuple" ∧ ob.dict = none) ∨ ∃ ob, K.lookup a = some ob ∧ ob.cls = .type "tuple" ∧ ob.dict = none
theorem plt_is {pins : List (Addr × Obj)} {s : Shared} {σ : L2.St} {H : Hp} {a : Addr} (I : Inv X pins σ H s) (h : PlT X.K H a) : ∃ ob, s.heap.get? a = some ob ∧ ob.cls = .type "tuple" ∧ ob.dict = none := by
  rcases h with ⟨ob, u, e, hc, hd⟩ | ⟨ob, e, hc, hd⟩
  · exact ⟨ob, (I.hok a _ e).1, hc, hd⟩
  · exact ⟨ob, I.kIn a ob e, hc, hd⟩
/-- t.m(x) -/
def tTm (K : PySem.W.Frag) (r : V → List V → Hp → VK → Prop) (to : TE) (t : TA) : TE := fun σ H Q => to σ H fun x H1 => (∃ a, x = .ref a ∧ PlT K H1 a) ∧ t σ H1 fun xs H2 => r x xs H2 Q
theorem pe_tm {o e : Expr} {to : TE} {t : TA} {name : Str} {apos cpos : Pos} {id : String} {r : V → List V → Hp → VK → Prop} (slot : Slot "tuple" name id) (hty : typeOf (.builtin id) = pure (.type "method_descriptor")) (hm : MtR X id r) (ho : PE X o to) (ha : PA X [e] t)
    (hb : attributeBase o name X.env (eval o X.env) = eval o X.env := by rfl) (hf : ((backTo cpos (starEach [e] X.env)).all (fun x => !x.1) && (backToKw cpos (keywordEach [] X.env)).all (fun x => x.1.isSome) && decide (([e] : List Expr).length + ([] : List Keyword).length + (if ([] : List Keyword).isEmpty then 0 else 1) < 30)) = true := by rfl)
    (hl : (apos.endLine == cpos.line) = true := by rfl) (hs : starEach [e] X.env = (false, eval e X.env) :: starEach [] X.env := by rfl) (hp : (backTo cpos (starEach [] X.env)).any (·.1) = false := by rfl) :
    PE X (.Call (.Attribute o name apos) [e] [] cpos) (tTm X.K r to t) := ⟨fun pins s σ H Q I h => wpAny_Call_method_late hb hf hl rfl (thn (ho.run pins s σ H _ I h) fun v s1 ⟨x, H1, I1, r1, ⟨a, ex, pl⟩, q1⟩ => by
  subst ex
  cases r1
  obtain ⟨ob, g1, g2, g3⟩ := plt_is I1 pl
  refine ⟨"tuple", id, PySem.F.plainAttrs_tuple, slot, hty, ⟨ob, g1, g2⟩, (fun b eb => by cases eb; exact ⟨ob, g1, g3⟩), ?_⟩
  have hA := ha.run cpos pins s1 σ H1 _ I1 q1
  rw [hs] at hA ⊢
  exact Calls.callWith_builtin (by show (false || (backTo cpos (starEach [] X.env)).any (·.1)) = false; rw [hp] <;> rfl) (Calls.evalArgs_plain (thn hA fun us s2 ⟨vs, H2, I2, r2, q2⟩ => hm pins s2 σ H2 (.ref a) vs _ us Q I2 rfl r2 q2)))⟩
theorem mt_tup_ixI : MtR X "tuple.index" (fun x xs H Q => ∃ p, ∃ ns : List Int, ∃ k : Int, x = .ref p ∧ xs = [.int k] ∧ SqT X.K H p (ns.map V.int) ∧ k ∈ ns ∧ Q (.int (ns.idxOf k : Nat)) H) := fun pins s σ H x xs v us Q I rx rs ⟨p, ns, k, e1, e2, hq, hk, q⟩ => by
  subst e1 e2
  cases rx
  obtain ⟨u, rfl, t, rfl⟩ := vals1 rs
  obtain ⟨its, r, pl, hz⟩ := I.tuple hq
  exact PySem.SeqAt.tuple_index_ints pl (intsAre_of r) hk ⟨.int _, H, I.tok _, ⟨_, rfl⟩, q⟩
end
end L2
end
section
set_option maxHeartbeats 2000000
set_option maxRecDepth 100000
/-! A layer of our own over HandS: plain data W, a store of changeable objects, and functions of plain Lean that say what a piece of the program computes. -/
namespace Iv
open PySem L2

/-- plain values: lst a list that nobody changes any more, scr the script, mt the k-th changeable object, obj any other value -/
inductive W where
  | non | bl (b : Bool) | int (i : Int) | str (s : Str)
  | tup (ws : List W) | lst (ws : List W) | scr (ns : List Int) | mt (k : Nat) | obj (v : V)

/-- changeable objects -/
inductive MO where
  | L (ws : List W)
  | D (kvs : List (Str × W))
  | I (fs : List (Str × W))
  | E (c : Str)

abbrev Store := List MO
abbrev En := List (Option W)

inductive Res (α : Type) where
  | ok (a : α) (S : Store) | exc (c : Str) (S : Store) | bad

/-- a statement's result -/
inductive Out where
  | nx (d : En) | rt (w : W) | bk (d : En) | ct (d : En)

def Res.bind {α β : Type} (r : Res α) (k : α → Store → Res β) : Res β := match r with
  | .ok a S => k a S
  | .exc c S => .exc c S
  | .bad => .bad

abbrev EF := En → Store → Res W
abbrev BF := En → Store → Res Bool
abbrev AF := En → Store → Res (List W)
abbrev SF := En → Store → Res Out

/-! ### what stands where -/
/-- who owns what: the addresses of each changeable object; hidden ones (a list that a comprehension fills) -/
structure Own where
  ms : List (List Addr)
  hid : List Addr
def owned (m : Own) (a : Addr) : Prop := a ∈ m.hid ∨ ∃ l, l ∈ m.ms ∧ a ∈ l

def KL (K : PySem.W.Frag) (a : Addr) (xs : List V) : Prop :=
  ∃ (o : Obj) (its : Array Value) (n : Nat), K.lookup a = some o ∧ o.cls = .type "list" ∧ o.dict = none ∧ o.data = .seq its n ∧ its.size ≤ sizeLine ∧ Vals xs its.toList
def KT (K : PySem.W.Frag) (a : Addr) (xs : List V) : Prop :=
  ∃ (o : Obj) (its : Array Value) (n : Nat), K.lookup a = some o ∧ o.cls = .type "tuple" ∧ o.dict = none ∧ o.data = .seq its n ∧ its.size ≤ sizeLine ∧ Vals xs its.toList
def Pl (H : Hp) (a : Addr) (xs : List V) : Prop := ∃ ob : Obj, H a = some (.frz ob (.tup xs)) ∧ ob.cls = .type "tuple" ∧ ob.dict = none
def TupAt (K : PySem.W.Frag) (m : Own) (H : Hp) (a : Addr) (xs : List V) : Prop := (Pl H a xs ∧ ¬ owned m a) ∨ KT K a xs
theorem TupAt.plain {K : PySem.W.Frag} {m : Own} {H : Hp} {a : Addr} {xs : List V} (h : TupAt K m H a xs) : PlT K H a := by
  rcases h with ⟨⟨ob, h1, h2, h3⟩, _⟩ | ⟨o, its, n, h1, h2, h3, _⟩
  · exact .inl ⟨ob, _, h1, h2, h3⟩
  · exact .inr ⟨o, h1, h2, h3⟩
def LstAt (m : Own) (H : Hp) (a : Addr) (xs : List V) : Prop := H a = some (.lst xs) ∧ ¬ owned m a
def ScrAt (K : PySem.W.Frag) (m : Own) (H : Hp) (a : Addr) (xs : List V) : Prop := (Rd H a (.lst xs) ∧ ¬ owned m a) ∨ KL K a xs
theorem TupAt.sq {K : PySem.W.Frag} {m : Own} {H : Hp} {a : Addr} {xs : List V} (h : TupAt K m H a xs) : SqT K H a xs := by
  rcases h with ⟨⟨ob, h1, _⟩, _⟩ | ⟨o, its, n, h1, h2, _, h3⟩
  · exact .inl (.inr ⟨ob, h1⟩)
  · exact .inr ⟨o, its, n, h1, h2, h3⟩
theorem LstAt.sq {K : PySem.W.Frag} {m : Own} {H : Hp} {a : Addr} {xs : List V} (h : LstAt m H a xs) : SqL K H a xs := .inl (.inl h.1)
theorem ScrAt.sq {K : PySem.W.Frag} {m : Own} {H : Hp} {a : Addr} {xs : List V} (h : ScrAt K m H a xs) : SqL K H a xs := by
  rcases h with h | h
  · exact .inl h.1
  · exact .inr h

mutual
inductive RepW (K : PySem.W.Frag) (m : Own) (H : Hp) : V → W → Prop
  | non : RepW K m H .non .non
  | bl (b : Bool) : RepW K m H (.bl b) (.bl b)
  | int (i : Int) : RepW K m H (.int i) (.int i)
  | str (s : Str) : RepW K m H (.str s) (.str s)
  | tup {a : Addr} {vs : List V} {ws : List W} : TupAt K m H a vs → RepWs K m H vs ws → RepW K m H (.ref a) (.tup ws)
  | lst {a : Addr} {vs : List V} {ws : List W} : LstAt m H a vs → RepWs K m H vs ws → RepW K m H (.ref a) (.lst ws)
  | scr {a : Addr} {ns : List Int} : ScrAt K m H a (ns.map V.int) → RepW K m H (.ref a) (.scr ns)
  | mt {k : Nat} {a : Addr} {l : List Addr} : m.ms[k]? = some (a :: l) → RepW K m H (.ref a) (.mt k)
  | obj (v : V) : RepW K m H v (.obj v)
inductive RepWs (K : PySem.W.Frag) (m : Own) (H : Hp) : List V → List W → Prop
  | nil : RepWs K m H [] []
  | cons {v : V} {vs : List V} {w : W} {ws : List W} : RepW K m H v w → RepWs K m H vs ws → RepWs K m H (v :: vs) (w :: ws)
end

/-- what is not owned stays, what is newly owned is new -/
structure Grw (m : Own) (H : Hp) (m' : Own) (H' : Hp) : Prop where
  pre : ∀ (k : Nat) (a : Addr) (l : List Addr), m.ms[k]? = some (a :: l) → ∃ l', m'.ms[k]? = some (a :: l')
  new : ∀ p, owned m' p → ¬ owned m p → H p = none
  keep : ∀ a o, H a = some o → ¬ owned m a → H' a = some o

section
variable {K : PySem.W.Frag} {m m' m1 m2 : Own} {H H' H1 H2 : Hp}
theorem Grw.refl : Grw m H m H := ⟨fun _ _ l h => ⟨l, h⟩, fun _ h n => absurd h n, fun _ _ h _ => h⟩
theorem Grw.noown (s : Grw m H m' H') {a : Addr} {o : HO} (h : H a = some o) (n : ¬ owned m a) : ¬ owned m' a := fun z => by
  have e := s.new a z n
  rw [h] at e
  cases e
theorem Grw.trans (s : Grw m H m1 H1) (t : Grw m1 H1 m2 H2) : Grw m H m2 H2 where
  pre := fun k a l h => by
    obtain ⟨l1, h1⟩ := s.pre k a l h
    exact t.pre k a l1 h1
  new := fun p h n => by
    by_cases h1 : owned m1 p
    · exact s.new p h1 n
    · have e := t.new p h h1
      cases q : H p with
      | none => rfl
      | some o =>
        rw [s.keep p o q n] at e
        cases e
  keep := fun a o h n => t.keep a o (s.keep a o h n) (s.noown h n)
/-- a new object that nobody owns -/
theorem Grw.alloc {p : Addr} {o : HO} (h : H p = none) : Grw m H m (upd H p o) :=
  ⟨fun _ _ l h => ⟨l, h⟩, fun _ h n => absurd h n, fun a u e _ => by
    rw [upd_ne (ne_of_none e h)]
    exact e⟩
/-- an owned object written -/
theorem Grw.write {p : Addr} {o : HO} (h : owned m p) : Grw m H m (upd H p o) :=
  ⟨fun _ _ l h => ⟨l, h⟩, fun _ h n => absurd h n, fun a u e n => by
    rw [upd_ne (show a ≠ p from fun z => n (by rw [z]; exact h))]
    exact e⟩
theorem Grw.rd (s : Grw m H m' H') {a : Addr} {u : HO} (h : Rd H a u) (n : ¬ owned m a) : Rd H' a u ∧ ¬ owned m' a := by
  rcases h with h | ⟨o, h⟩
  · exact ⟨.inl (s.keep a _ h n), s.noown h n⟩
  · exact ⟨.inr ⟨o, s.keep a _ h n⟩, s.noown h n⟩
theorem TupAt.step (s : Grw m H m' H') {a : Addr} {xs : List V} (h : TupAt K m H a xs) : TupAt K m' H' a xs := by
  rcases h with ⟨⟨ob, h1, h2⟩, n⟩ | h
  · exact .inl ⟨⟨ob, s.keep a _ h1 n, h2⟩, s.noown h1 n⟩
  · exact .inr h
theorem LstAt.step (s : Grw m H m' H') {a : Addr} {xs : List V} (h : LstAt m H a xs) : LstAt m' H' a xs := ⟨s.keep a _ h.1 h.2, s.noown h.1 h.2⟩
theorem ScrAt.step (s : Grw m H m' H') {a : Addr} {xs : List V} (h : ScrAt K m H a xs) : ScrAt K m' H' a xs := by
  rcases h with h | h
  · exact .inl (s.rd h.1 h.2)
  · exact .inr h
mutual
theorem RepW.step (s : Grw m H m' H') : ∀ {v : V} {w : W}, RepW K m H v w → RepW K m' H' v w
  | _, _, .non => .non
  | _, _, .bl b => .bl b
  | _, _, .int i => .int i
  | _, _, .str x => .str x
  | _, _, .tup h r => .tup (h.step s) (RepWs.step s r)
  | _, _, .lst h r => .lst (h.step s) (RepWs.step s r)
  | _, _, .scr h => .scr (h.step s)
  | _, _, .mt h => by
    obtain ⟨l', h'⟩ := s.pre _ _ _ h
    exact .mt h'
  | _, _, .obj v => .obj v
theorem RepWs.step (s : Grw m H m' H') : ∀ {vs : List V} {ws : List W}, RepWs K m H vs ws → RepWs K m' H' vs ws
  | _, _, .nil => .nil
  | _, _, .cons h r => .cons (RepW.step s h) (RepWs.step s r)
end
theorem RepWs.length : ∀ {vs : List V} {ws : List W}, RepWs K m H vs ws → vs.length = ws.length
  | _, _, .nil => rfl
  | _, _, .cons _ r => congrArg (· + 1) r.length
theorem RepWs.get : ∀ {vs : List V} {ws : List W}, RepWs K m H vs ws → ∀ (i : Nat) (w : W), ws[i]? = some w → ∃ v, vs[i]? = some v ∧ RepW K m H v w
  | _, _, .nil, i, w, h => by simp at h
  | _, _, .cons h r, 0, w, e => by
    simp at e
    subst e
    exact ⟨_, rfl, h⟩
  | _, _, .cons h r, i + 1, w, e => by
    obtain ⟨v, h1, h2⟩ := r.get i w (by simpa using e)
    exact ⟨v, by simpa using h1, h2⟩
theorem RepWs.get' : ∀ {vs : List V} {ws : List W}, RepWs K m H vs ws → ∀ (i : Nat) (v : V), vs[i]? = some v → ∃ w, ws[i]? = some w ∧ RepW K m H v w
  | _, _, .nil, i, w, h => by simp at h
  | _, _, .cons h r, 0, w, e => by
    simp at e
    subst e
    exact ⟨_, rfl, h⟩
  | _, _, .cons h r, i + 1, w, e => by
    obtain ⟨v, h1, h2⟩ := r.get' i w (by simpa using e)
    exact ⟨v, by simpa using h1, h2⟩
theorem RepWs.append : ∀ {vs : List V} {ws : List W}, RepWs K m H vs ws → ∀ {vs' : List V} {ws' : List W}, RepWs K m H vs' ws' → RepWs K m H (vs ++ vs') (ws ++ ws')
  | _, _, .nil, _, _, r' => r'
  | _, _, .cons h r, _, _, r' => .cons h (r.append r')
theorem RepWs.take : ∀ {vs : List V} {ws : List W}, RepWs K m H vs ws → ∀ n, RepWs K m H (vs.take n) (ws.take n)
  | _, _, _, 0 => .nil
  | _, _, .nil, _ + 1 => .nil
  | _, _, .cons h r, n + 1 => .cons h (r.take n)
theorem RepWs.drop : ∀ {vs : List V} {ws : List W}, RepWs K m H vs ws → ∀ n, RepWs K m H (vs.drop n) (ws.drop n)
  | _, _, r, 0 => r
  | _, _, .nil, _ + 1 => .nil
  | _, _, .cons h r, n + 1 => r.drop n
theorem RepWs.set {v : V} {w : W} (q : RepW K m H v w) : ∀ {vs : List V} {ws : List W}, RepWs K m H vs ws → ∀ n, RepWs K m H (vs.set n v) (ws.set n w)
  | _, _, .nil, _ => .nil
  | _, _, .cons h r, 0 => .cons q r
  | _, _, .cons h r, n + 1 => .cons h (r.set q n)
end

/-! ### changeable objects -/
/-- named values: a dict's, an object's -/
inductive RepKs (K : PySem.W.Frag) (m : Own) (H : Hp) : List (Str × V) → List (Str × W) → Prop
  | nil : RepKs K m H [] []
  | cons {s : Str} {v : V} {vs : List (Str × V)} {w : W} {ws : List (Str × W)} : RepW K m H v w → RepKs K m H vs ws → RepKs K m H ((s, v) :: vs) ((s, w) :: ws)
theorem RepKs.step {K : PySem.W.Frag} {m m' : Own} {H H' : Hp} (g : Grw m H m' H') : ∀ {vs : List (Str × V)} {ws : List (Str × W)}, RepKs K m H vs ws → RepKs K m' H' vs ws
  | _, _, .nil => .nil
  | _, _, .cons h r => .cons (h.step g) (r.step g)
/-- a dict's keys are texts -/
def txtD (vs : List (Str × V)) : List (L2.Key × V) := vs.map fun p => (Sum.inr p.1, p.2)
/-- a caught exception of the class cls -/
def ExX (cls : Value) (a : Addr) : HO := .ext fun h => ∃ (oe : Obj) (vs : Array Value), h.get? a = some oe ∧ Zc cls none oe ∧ oe.data = .fields vs
def RepO (K : PySem.W.Frag) (m : Own) (H : Hp) (a : Addr) (l : List Addr) : MO → Prop
  | .L ws => l = [] ∧ ∃ vs, H a = some (.lst vs) ∧ RepWs K m H vs ws
  | .D kvs => l = [] ∧ ∃ vs, H a = some (.dK (txtD vs)) ∧ RepKs K m H vs kvs
  | .I fs => ∃ C dx vs, l = [dx] ∧ PySem.W.nsIn K mainGlobals "Bench" = some (some (.ref C)) ∧ H a = some (.ins C dx vs) ∧ H dx = some (.own a) ∧ RepKs K m H vs fs
  | .E c => l = [] ∧ ∃ C, PySem.W.nsIn K mainGlobals c = some (some (.ref C)) ∧ H a = some (ExX (.ref C) a)
structure RepS (K : PySem.W.Frag) (m : Own) (H : Hp) (S : Store) : Prop where
  len : m.ms.length = S.length
  obj : ∀ (k : Nat) (o : MO), S[k]? = some o → ∃ a l, m.ms[k]? = some (a :: l) ∧ RepO K m H a l o
  disj : ∀ (j k : Nat) (l l' : List Addr), j ≠ k → m.ms[j]? = some l → m.ms[k]? = some l' → ∀ a, a ∈ l → a ∉ l'
  trk : ∀ a, a ∈ m.hid → ∃ o, H a = some o
  dish : ∀ (k : Nat) (l : List Addr), m.ms[k]? = some l → ∀ a, a ∈ l → a ∉ m.hid
/-- one step of the heap -/
structure Step (m : Own) (H : Hp) (m' : Own) (H' : Hp) : Prop where
  g : Grw m H m' H'
  hid : m'.hid = m.hid
  still : ∀ a, a ∈ m.hid → H' a = H a
theorem Step.refl {m : Own} {H : Hp} : Step m H m H := ⟨Grw.refl, rfl, fun _ _ => rfl⟩
theorem Step.trans {m m1 m2 : Own} {H H1 H2 : Hp} (s : Step m H m1 H1) (t : Step m1 H1 m2 H2) : Step m H m2 H2 := ⟨s.g.trans t.g, t.hid.trans s.hid, fun a h => (t.still a (by rw [s.hid]; exact h)).trans (s.still a h)⟩
/-- the slots -/
structure RepE (K : PySem.W.Frag) (m : Own) (H : Hp) (σ : L2.St) (d : En) : Prop where
  len : σ.length = d.length
  get : ∀ (i : Nat) (w : W), d[i]? = some (some w) → ∃ v, σ[i]? = some (some v) ∧ RepW K m H v w
section
variable {K : PySem.W.Frag} {m m' m1 m2 : Own} {H H' H1 H2 : Hp} {σ : L2.St} {d : En} {S S' : Store}
theorem RepE.step (s : Grw m H m' H') (h : RepE K m H σ d) : RepE K m' H' σ d := ⟨h.len, fun i w e => by
  obtain ⟨v, e1, r⟩ := h.get i w e
  exact ⟨v, e1, r.step s⟩⟩
theorem RepE.set (h : RepE K m H σ d) {v : V} {w : W} (r : RepW K m H v w) (i : Nat) : RepE K m H (σ.set i (some v)) (d.set i (some w)) := ⟨by rw [List.length_set, List.length_set, h.len], fun j w' e => by
  by_cases hj : i = j
  · subst hj
    by_cases hi : i < d.length
    · rw [List.getElem?_set_self hi] at e
      cases e
      exact ⟨v, List.getElem?_set_self (by rw [h.len]; exact hi), r⟩
    · rw [List.getElem?_eq_none (by simpa using hi)] at e
      cases e
  · rw [List.getElem?_set_ne hj] at e
    obtain ⟨v', e1, r'⟩ := h.get j w' e
    exact ⟨v', by rw [List.getElem?_set_ne hj]; exact e1, r'⟩⟩
theorem RepO.step (s : Grw m H m' H') {a : Addr} {l : List Addr} {o : MO} (h : RepO K m H a l o) (e : ∀ b, b ∈ a :: l → H' b = H b) : RepO K m' H' a l o := by
  cases o with
  | L ws =>
    obtain ⟨rfl, vs, h1, h2⟩ := h
    exact ⟨rfl, vs, (e a List.mem_cons_self).trans h1, h2.step s⟩
  | D ws =>
    obtain ⟨rfl, vs, h1, h2⟩ := h
    exact ⟨rfl, vs, (e a List.mem_cons_self).trans h1, h2.step s⟩
  | I ws =>
    obtain ⟨C, dx, vs, rfl, hC, h1, h3, h2⟩ := h
    exact ⟨C, dx, vs, rfl, hC, (e a List.mem_cons_self).trans h1, (e dx (List.mem_cons_of_mem _ List.mem_cons_self)).trans h3, h2.step s⟩
  | E c =>
    obtain ⟨rfl, C, h1, h2⟩ := h
    exact ⟨rfl, C, h1, (e a List.mem_cons_self).trans h2⟩
theorem owned_of {k : Nat} {l : List Addr} {a : Addr} (h : m.ms[k]? = some l) (ha : a ∈ l) : owned m a := .inr ⟨l, List.mem_of_getElem? h, ha⟩
/-- a new object that nobody owns -/
theorem RepS.alloc (h : RepS K m H S) {p : Addr} {o : HO} (np : H p = none) : RepS K m (upd H p o) S := ⟨h.len, fun k u e => by
  obtain ⟨a, l, e1, r⟩ := h.obj k u e
  refine ⟨a, l, e1, ?_⟩
  cases u with
  | L ws =>
    obtain ⟨rfl, vs, h1, h2⟩ := r
    exact ⟨rfl, vs, by rw [upd_ne (ne_of_none h1 np)]; exact h1, h2.step (Grw.alloc np)⟩
  | D ws =>
    obtain ⟨rfl, vs, h1, h2⟩ := r
    exact ⟨rfl, vs, by rw [upd_ne (ne_of_none h1 np)]; exact h1, h2.step (Grw.alloc np)⟩
  | I ws =>
    obtain ⟨C, dx, vs, rfl, hC, h1, h3, h2⟩ := r
    exact ⟨C, dx, vs, rfl, hC, by rw [upd_ne (ne_of_none h1 np)]; exact h1, by rw [upd_ne (ne_of_none h3 np)]; exact h3, h2.step (Grw.alloc np)⟩
  | E c =>
    obtain ⟨rfl, C, h1, h2⟩ := r
    exact ⟨rfl, C, h1, by rw [upd_ne (ne_of_none h2 np)]; exact h2⟩, h.disj, fun a ha => by
  obtain ⟨u, e⟩ := h.trk a ha
  exact ⟨u, by rw [upd_ne (ne_of_none e np)]; exact e⟩, h.dish⟩
theorem RepS.allocS (h : RepS K m H S) {p : Addr} {o : HO} (np : H p = none) : Step m H m (upd H p o) := ⟨Grw.alloc np, rfl, fun a ha => by
  obtain ⟨u, e⟩ := h.trk a ha
  exact upd_ne (ne_of_none e np)⟩
end

/-! ### readings of functions of plain Lean -/
def Post {α : Type} (K : PySem.W.Frag) (E : Str → Hp → Prop) (m : Own) (H : Hp) (r : Res α) (C : Own → Hp → α → Prop) : Prop := match r with
  | .ok a S' => ∀ m' H', Step m H m' H' → RepS K m' H' S' → C m' H' a
  | .exc c S' => ∀ m' H', Step m H m' H' → RepS K m' H' S' → E c H'
  | .bad => False
def CV (K : PySem.W.Frag) (Q : VK) : Own → Hp → W → Prop := fun m H w => ∀ v, RepW K m H v w → Q v H
def CB (Q : Bool → Hp → Prop) : Own → Hp → Bool → Prop := fun _ H b => Q b H
def CA (K : PySem.W.Frag) (Q : List V → Hp → Prop) : Own → Hp → List W → Prop := fun m H ws => ∀ vs, RepWs K m H vs ws → Q vs H
def CS (K : PySem.W.Frag) (D : Ends) : Own → Hp → Out → Prop := fun m H o => match o with
  | .nx d => ∀ σ, RepE K m H σ d → D.nx σ H
  | .bk d => ∀ σ, RepE K m H σ d → D.bk σ H
  | .ct d => ∀ σ, RepE K m H σ d → D.ct σ H
  | .rt w => ∀ v, RepW K m H v w → D.rt v H
def rE (K : PySem.W.Frag) (E : Str → Hp → Prop) (f : EF) : TE := fun σ H Q => ∃ m d S, RepE K m H σ d ∧ RepS K m H S ∧ Post K E m H (f d S) (CV K Q)
def rB (K : PySem.W.Frag) (E : Str → Hp → Prop) (f : BF) : TT := fun σ H Q => ∃ m d S, RepE K m H σ d ∧ RepS K m H S ∧ Post K E m H (f d S) (CB Q)
def rA (K : PySem.W.Frag) (E : Str → Hp → Prop) (f : AF) : TA := fun σ H Q => ∃ m d S, RepE K m H σ d ∧ RepS K m H S ∧ Post K E m H (f d S) (CA K Q)
def rS (K : PySem.W.Frag) (E : Str → Hp → Prop) (f : SF) : TS := fun D σ H => ∃ m d S, RepE K m H σ d ∧ RepS K m H S ∧ Post K E m H (f d S) (CS K D)
section
variable {K : PySem.W.Frag} {E : Str → Hp → Prop} {m m' : Own} {H H' : Hp} {α β : Type}
theorem Post.step (s : Step m H m' H') {r : Res α} {C : Own → Hp → α → Prop} (h : Post K E m H r C) : Post K E m' H' r C := by
  cases r with
  | ok w S' => exact fun m2 H2 t a => h m2 H2 (s.trans t) a
  | exc c S' => exact fun m2 H2 t a => h m2 H2 (s.trans t) a
  | bad => exact h
/-- two pieces in a row -/
theorem Post.bind {r : Res α} {k : α → Store → Res β} {C : Own → Hp → β → Prop} {C' : Own → Hp → α → Prop} (h : Post K E m H (r.bind k) C)
    (hk : ∀ a S' m' H', Step m H m' H' → RepS K m' H' S' → Post K E m' H' (k a S') C → C' m' H' a) : Post K E m H r C' := by
  cases r with
  | ok a S' => exact fun m' H' s rs => hk a S' m' H' s rs (Post.step s h)
  | exc c S' => exact h
  | bad => exact h
theorem Post.ok {S : Store} {a : α} {C : Own → Hp → α → Prop} (h : Post K E m H (.ok a S) C) (rs : RepS K m H S) : C m H a := h m H Step.refl rs
theorem Post.exc {S : Store} {c : Str} {C : Own → Hp → α → Prop} (h : Post (α := α) K E m H (.exc c S) C) (rs : RepS K m H S) : E c H := h m H Step.refl rs
end
/-! weaker readings -/
theorem _root_.L2.PE.weak {X : Cx} {e : Expr} {t t' : TE} (h : PE X e t) (i : ∀ σ H Q, t' σ H Q → t σ H Q) : PE X e t' := ⟨fun pins s σ H Q I q => h.run pins s σ H Q I (i σ H Q q)⟩
theorem _root_.L2.PT.weak {X : Cx} {e : Expr} {t t' : TT} (h : PT X e t) (i : ∀ σ H Q, t' σ H Q → t σ H Q) : PT X e t' := ⟨fun pins s σ H Q I q => h.run pins s σ H Q I (i σ H Q q)⟩
theorem _root_.L2.PW.weak {X : Cx} {e : Expr} {t t' : TT} (h : PW X e t) (i : ∀ σ H Q, t' σ H Q → t σ H Q) : PW X e t' := ⟨fun wh pins s σ H Q I q => h.run wh pins s σ H Q I (i σ H Q q)⟩
theorem _root_.L2.PA.weak {X : Cx} {e : List Expr} {t t' : TA} (h : PA X e t) (i : ∀ σ H Q, t' σ H Q → t σ H Q) : PA X e t' := ⟨fun pos pins s σ H Q I q => h.run pos pins s σ H Q I (i σ H Q q)⟩
theorem _root_.L2.PS.weak {X : Cx} {e : Stmt} {t t' : TS} (h : PS X e t) (i : ∀ D σ H, t' D σ H → t D σ H) : PS X e t' := ⟨fun pins s σ H D I q => h.run pins s σ H D I (i D σ H q)⟩
theorem _root_.L2.PSs.weak {X : Cx} {e : List Stmt} {t t' : TS} (h : PSs X e t) (i : ∀ D σ H, t' D σ H → t D σ H) : PSs X e t' := ⟨fun pins s σ H D I q => h.run pins s σ H D I (i D σ H q)⟩
end Iv
end
section
set_option maxHeartbeats 2000000
set_option maxRecDepth 100000
namespace Iv
open PySem L2

/-! ### the store -/
section
variable {K : PySem.W.Frag} {m m' : Own} {H H' : Hp} {S S' : Store}
theorem RepS.get (h : RepS K m H S) {k : Nat} {l : List Addr} (e : m.ms[k]? = some l) : ∃ o a l', S[k]? = some o ∧ l = a :: l' ∧ RepO K m H a l' o := by
  have hk : k < m.ms.length := (List.getElem?_eq_some_iff.mp e).1
  have hk' : k < S.length := by rw [← h.len]; exact hk
  obtain ⟨a, l', e1, r⟩ := h.obj k S[k] (List.getElem?_eq_getElem hk')
  rw [e] at e1
  cases e1
  exact ⟨S[k], a, l', List.getElem?_eq_getElem hk', rfl, r⟩
theorem RepO.tracked {a : Addr} {l : List Addr} {o : MO} (h : RepO K m H a l o) : ∀ b, b ∈ a :: l → ∃ u, H b = some u := by
  cases o with
  | L ws =>
    obtain ⟨rfl, vs, h1, h2⟩ := h
    intro b hb
    have e : b = a := by simpa using hb
    subst e
    exact ⟨_, h1⟩
  | D ws =>
    obtain ⟨rfl, vs, h1, h2⟩ := h
    intro b hb
    have e : b = a := by simpa using hb
    subst e
    exact ⟨_, h1⟩
  | I ws =>
    obtain ⟨C, dx, vs, rfl, _, h1, h3, h2⟩ := h
    intro b hb
    rcases (by simpa using hb : b = a ∨ b = dx) with e | e
    · subst e
      exact ⟨_, h1⟩
    · subst e
      exact ⟨_, h3⟩
  | E c =>
    obtain ⟨rfl, C, h1, h2⟩ := h
    intro b hb
    have e : b = a := by simpa using hb
    subst e
    exact ⟨_, h2⟩
theorem RepS.tracked (h : RepS K m H S) {p : Addr} (o : owned m p) : ∃ u, H p = some u := by
  rcases o with hp | ⟨l, hl, hp⟩
  · exact h.trk p hp
  · obtain ⟨k, hk⟩ := List.getElem?_of_mem hl
    obtain ⟨o, a, l', e, rfl, r⟩ := h.get hk
    exact r.tracked p hp
theorem RepS.fresh (h : RepS K m H S) {p : Addr} (np : H p = none) : ¬ owned m p := fun z => by
  obtain ⟨u, e⟩ := h.tracked z
  rw [np] at e
  cases e
/-- a new changeable list -/
def Own.push (m : Own) (p : Addr) : Own := ⟨m.ms ++ [[p]], m.hid⟩
theorem own_push {p q : Addr} (h : owned (m.push p) q) : owned m q ∨ q = p := by
  rcases h with h | ⟨l, hl, hq⟩
  · exact .inl (.inl h)
  · rcases List.mem_append.mp hl with hl | hl
    · exact .inl (.inr ⟨l, hl, hq⟩)
    · have e : l = [p] := by simpa using hl
      subst e
      exact .inr (by simpa using hq)
theorem Grw.push {p : Addr} {o : HO} (np : H p = none) : Grw m H (m.push p) (upd H p o) where
  pre := fun k a l h => ⟨l, by
    show (m.ms ++ [[p]])[k]? = _
    rw [List.getElem?_append_left (List.getElem?_eq_some_iff.mp h).1]; exact h⟩
  new := fun q h n => by
    rcases own_push h with h | h
    · exact absurd h n
    · rw [h]; exact np
  keep := fun a u e _ => by
    rw [upd_ne (ne_of_none e np)]
    exact e
theorem RepS.pushS (h : RepS K m H S) {p : Addr} {o : HO} (np : H p = none) : Step m H (m.push p) (upd H p o) := ⟨Grw.push np, rfl, fun a ha => by
  obtain ⟨u, e⟩ := h.trk a ha
  exact upd_ne (ne_of_none e np)⟩
theorem push_cases {p : Addr} {i : Nat} {l : List Addr} (e : (m.push p).ms[i]? = some l) : (i < m.ms.length ∧ m.ms[i]? = some l) ∨ (i = m.ms.length ∧ l = [p]) := by
  have e : (m.ms ++ [[p]])[i]? = some l := e
  by_cases hi : i < m.ms.length
  · rw [List.getElem?_append_left hi] at e
    exact .inl ⟨hi, e⟩
  · have hi2 : i = m.ms.length := by
      have := (List.getElem?_eq_some_iff.mp e).1
      simp at this
      omega
    subst hi2
    rw [List.getElem?_append_right (Nat.le_refl _)] at e
    simp at e
    exact .inr ⟨rfl, e.symm⟩
theorem RepS.push (h : RepS K m H S) {p : Addr} {vs : List V} {ws : List W} (np : H p = none) (r : RepWs K m H vs ws) : RepS K (m.push p) (upd H p (.lst vs)) (S ++ [.L ws]) where
  len := by simp [Own.push, h.len]
  obj := fun k o e => by
    by_cases hk : k < S.length
    · rw [List.getElem?_append_left hk] at e
      obtain ⟨a, l, e1, q⟩ := h.obj k o e
      refine ⟨a, l, by
        show (m.ms ++ [[p]])[k]? = _
        rw [List.getElem?_append_left (by rw [h.len]; exact hk)]; exact e1, q.step (Grw.push np) fun b hb => ?_⟩
      obtain ⟨u, hu⟩ := q.tracked b hb
      exact upd_ne (ne_of_none hu np)
    · have hk2 : k = S.length := by
        have := (List.getElem?_eq_some_iff.mp e).1
        simp at this
        omega
      subst hk2
      rw [List.getElem?_append_right (Nat.le_refl _)] at e
      simp at e
      subst e
      exact ⟨p, [], by
        show (m.ms ++ [[p]])[S.length]? = _
        rw [List.getElem?_append_right (by rw [h.len]; exact Nat.le_refl _)]; simp [h.len], rfl, vs, upd_same, r.step (Grw.push np)⟩
  disj := fun j k l l' hjk hj hk a ha ha' => by
    rcases push_cases hj with ⟨j1, j2⟩ | ⟨j1, j2⟩ <;> rcases push_cases hk with ⟨k1, k2⟩ | ⟨k1, k2⟩
    · exact h.disj j k l l' hjk j2 k2 a ha ha'
    · subst k2
      have e : a = p := by simpa using ha'
      subst e
      exact h.fresh np (.inr ⟨l, List.mem_of_getElem? j2, ha⟩)
    · subst j2
      have e : a = p := by simpa using ha
      subst e
      exact h.fresh np (.inr ⟨l', List.mem_of_getElem? k2, ha'⟩)
    · exact hjk (j1.trans k1.symm)
  trk := fun a ha => by
    obtain ⟨u, e⟩ := h.trk a ha
    exact ⟨u, by rw [upd_ne (ne_of_none e np)]; exact e⟩
  dish := fun k l hk a ha hh => by
    rcases push_cases hk with ⟨k1, k2⟩ | ⟨k1, k2⟩
    · exact h.dish k l k2 a ha hh
    · subst k2
      have e : a = p := by simpa using ha
      subst e
      exact h.fresh np (.inl hh)
/-- a changeable list written -/
theorem RepS.writeS (h : RepS K m H S) {k : Nat} {a : Addr} {l : List Addr} {o : HO} (e : m.ms[k]? = some (a :: l)) : Step m H m (upd H a o) := ⟨Grw.write (owned_of e List.mem_cons_self), rfl, fun b hb => upd_ne fun z => h.dish k _ e a List.mem_cons_self (by rw [← z]; exact hb)⟩
theorem RepS.write (h : RepS K m H S) {k : Nat} {a : Addr} {l : List Addr} {vs : List V} {ws ws0 : List W} (e : m.ms[k]? = some (a :: l)) (e0 : S[k]? = some (.L ws0)) (r : RepWs K m H vs ws) : RepS K m (upd H a (.lst vs)) (S.set k (.L ws)) where
  len := by simp [h.len]
  obj := fun j o ej => by
    by_cases hj : k = j
    · subst hj
      rw [List.getElem?_set_self (List.getElem?_eq_some_iff.mp e0).1] at ej
      cases ej
      obtain ⟨a', l', e1, q1, _⟩ := h.obj k _ e0
      rw [e] at e1
      cases e1
      exact ⟨a, l, e, q1, vs, upd_same, r.step (Grw.write (owned_of e List.mem_cons_self))⟩
    · rw [List.getElem?_set_ne hj] at ej
      obtain ⟨b, l', e1, q⟩ := h.obj j o ej
      refine ⟨b, l', e1, q.step (Grw.write (owned_of e List.mem_cons_self)) fun c hc => ?_⟩
      exact upd_ne fun z => h.disj j k _ _ (Ne.symm hj) e1 e c hc (by rw [z]; exact List.mem_cons_self)
  disj := h.disj
  trk := fun b hb => by
    obtain ⟨u, q⟩ := h.trk b hb
    refine ⟨u, ?_⟩
    rw [upd_ne (fun z => h.dish k _ e a List.mem_cons_self (by rw [← z]; exact hb))]
    exact q
  dish := h.dish
end

/-! ### sequences -/
/-- a list's items -/
def listOf : W → Store → Option (List W)
  | .lst ws, _ => some ws
  | .mt k, S => match S[k]? with
    | some (.L ws) => some ws
    | _ => none
  | _, _ => none
/-- any sequence's items -/
def seqOf : W → Store → Option (List W)
  | .tup ws, _ => some ws
  | .scr ns, _ => some (ns.map W.int)
  | .lst ws, _ => some ws
  | .mt k, S => match S[k]? with
    | some (.L ws) => some ws
    | _ => none
  | _, _ => none
section
variable {K : PySem.W.Frag} {m m' : Own} {H H' : Hp} {S S' : Store} {v : V} {w : W} {ws : List W}
theorem repInts : ∀ ns : List Int, RepWs K m H (ns.map V.int) (ns.map W.int)
  | [] => .nil
  | n :: r => .cons (.int n) (repInts r)
theorem RepW.list (rs : RepS K m H S) (r : RepW K m H v w) (h : listOf w S = some ws) : ∃ a vs, v = .ref a ∧ H a = some (.lst vs) ∧ RepWs K m H vs ws := by
  cases r with
  | lst hl hr =>
    simp only [listOf, Option.some.injEq] at h
    subst h
    exact ⟨_, _, rfl, hl.1, hr⟩
  | @mt k a l e =>
    obtain ⟨o, a', l', e1, e2, q⟩ := rs.get e
    cases e2
    simp only [listOf, e1] at h
    cases o with
    | L zs =>
      simp only [Option.some.injEq] at h
      subst h
      obtain ⟨_, vs, h1, h2⟩ := q
      exact ⟨a, vs, rfl, h1, h2⟩
    | _ => cases h
  | _ => simp [listOf] at h
theorem RepW.seq (rs : RepS K m H S) (r : RepW K m H v w) (h : seqOf w S = some ws) : ∃ a vs, v = .ref a ∧ (SqL K H a vs ∨ SqT K H a vs) ∧ RepWs K m H vs ws := by
  cases r with
  | lst hl hr =>
    simp only [seqOf, Option.some.injEq] at h
    subst h
    exact ⟨_, _, rfl, .inl hl.sq, hr⟩
  | tup hl hr =>
    simp only [seqOf, Option.some.injEq] at h
    subst h
    exact ⟨_, _, rfl, .inr hl.sq, hr⟩
  | @scr a ns hl =>
    simp only [seqOf, Option.some.injEq] at h
    subst h
    exact ⟨_, _, rfl, .inl hl.sq, repInts ns⟩
  | @mt k a l e =>
    obtain ⟨o, a', l', e1, e2, q⟩ := rs.get e
    cases e2
    simp only [seqOf, e1] at h
    cases o with
    | L zs =>
      simp only [Option.some.injEq] at h
      subst h
      obtain ⟨_, vs, h1, h2⟩ := q
      exact ⟨a, vs, rfl, .inl (.inl (.inl h1)), h2⟩
    | _ => cases h
  | _ => simp [seqOf] at h
theorem RepWs.atI {vs : List V} (r : RepWs K m H vs ws) {i : Int} (h : L2.atI ws i = some w) : ∃ v, L2.atI vs i = some v ∧ RepW K m H v w := by
  unfold L2.atI at h ⊢
  rw [r.length]
  cases e : ixN ws.length i with
  | none => rw [e] at h; cases h
  | some j =>
    rw [e] at h
    exact r.get j w h
theorem RepWs.cut {vs : List V} (r : RepWs K m H vs ws) (lo hi : Option Int) : RepWs K m H (cutV vs lo hi) ((ws.drop (HT.sIx ws.length 0 lo)).take (HT.sIx ws.length ws.length hi - HT.sIx ws.length 0 lo)) := by
  unfold cutV
  rw [r.length]
  exact (r.drop _).take _
theorem newTup (rs : RepS K m H S) {p : Addr} {ob : Obj} (np : H p = none) (hc : ob.cls = .type "tuple") (hd : ob.dict = none) {vs : List V} (r : RepWs K m H vs ws) : RepW K m (upd H p (.frz ob (.tup vs))) (.ref p) (.tup ws) := .tup (.inl ⟨⟨ob, upd_same, hc, hd⟩, rs.fresh np⟩) (r.step (Grw.alloc np))
theorem newLst (rs : RepS K m H S) {p : Addr} (np : H p = none) {vs : List V} (r : RepWs K m H vs ws) : RepW K m (upd H p (.lst vs)) (.ref p) (.lst ws) := .lst ⟨upd_same, rs.fresh np⟩ (r.step (Grw.alloc np))
theorem small (h : ws.length ≤ 100000) {vs : List V} (r : RepWs K m H vs ws) : vs.length ≤ sizeLine := by
  rw [r.length]
  exact Nat.le_trans h (by decide)
end

/-! ### judgements -/
abbrev PEv (X : Cx) (E : Str → Hp → Prop) (e : Expr) (f : EF) : Prop := PE X e (rE X.K E f)
abbrev PTv (X : Cx) (E : Str → Hp → Prop) (e : Expr) (f : BF) : Prop := PT X e (rB X.K E f)
abbrev PWv (X : Cx) (E : Str → Hp → Prop) (e : Expr) (f : BF) : Prop := PW X e (rB X.K E f)
abbrev PAv (X : Cx) (E : Str → Hp → Prop) (es : List Expr) (f : AF) : Prop := PA X es (rA X.K E f)
abbrev PSv (X : Cx) (E : Str → Hp → Prop) (e : Stmt) (f : SF) : Prop := PS X e (rS X.K E f)
abbrev PSsv (X : Cx) (E : Str → Hp → Prop) (e : List Stmt) (f : SF) : Prop := PSs X e (rS X.K E f)

/-! ### expressions -/
def eVar (i : Nat) : EF := fun d S => match d[i]? with
  | some (some w) => .ok w S
  | _ => .bad
def eC (w : W) : EF := fun _ S => .ok w S
def eOp (o : W → W → Store → Res W) (f g : EF) : EF := fun d S => (f d S).bind fun x S1 => (g d S1).bind fun y S2 => o x y S2
def eUn (o : W → Store → Res W) (f : EF) : EF := fun d S => (f d S).bind o
def aNil : AF := fun _ S => .ok [] S
def aCons (f : EF) (g : AF) : AF := fun d S => (f d S).bind fun x S1 => (g d S1).bind fun xs S2 => .ok (x :: xs) S2
def eCall (F : List W → Store → Res W) (a : AF) : EF := fun d S => (a d S).bind F
def mkTup (ws : List W) (S : Store) : Res W := if ws.length ≤ 100000 then .ok (.tup ws) S else .bad
def mkLst (ws : List W) (S : Store) : Res W := if ws.length ≤ 100000 then .ok (.lst ws) S else .bad
def mkNew (ws : List W) (S : Store) : Res W := if ws.length ≤ 100000 then .ok (.mt S.length) (S ++ [.L ws]) else .bad
abbrev eTup (a : AF) : EF := eCall mkTup a
abbrev eLst (a : AF) : EF := eCall mkLst a
abbrev eNew (a : AF) : EF := eCall mkNew a
def eAnd (f g : EF) : EF := fun d S => (f d S).bind fun x S1 => match x with
  | .bl true => g d S1
  | .bl false => .ok (.bl false) S1
  | _ => .bad
def eOr (f g : EF) : EF := fun d S => (f d S).bind fun x S1 => match x with
  | .bl true => .ok (.bl true) S1
  | .bl false => g d S1
  | _ => .bad
def wNot (x : W) (S : Store) : Res W := match x with
  | .bl b => .ok (.bl (!b)) S
  | _ => .bad
def bVal (f : EF) : BF := fun d S => (f d S).bind fun x S1 => match x with
  | .bl b => .ok b S1
  | _ => .bad
def bAnd (f g : BF) : BF := fun d S => (f d S).bind fun b S1 => if b = true then g d S1 else .ok false S1
def bOr (f g : BF) : BF := fun d S => (f d S).bind fun b S1 => if b = true then .ok true S1 else g d S1
def bNot (f : BF) : BF := fun d S => (f d S).bind fun b S1 => .ok (!b) S1
def eIf (c : BF) (f g : EF) : EF := fun d S => (c d S).bind fun b S1 => if b = true then f d S1 else g d S1
def eChain (o o' : W → W → Store → Res W) (f g h : EF) : EF := fun d S => (f d S).bind fun x S1 => (g d S1).bind fun y S2 => (o x y S2).bind fun z S3 => match z with
  | .bl true => (h d S3).bind fun u S4 => o' y u S4
  | .bl false => .ok (.bl false) S3
  | _ => .bad

section
variable {X : Cx} {E : Str → Hp → Prop} {a b c e : Expr} {es : List Expr} {f g h : EF} {fa : AF} {pos : Pos}
/-- by the value: what a reading by values asks, from the data -/
def rO (K : PySem.W.Frag) (E : Str → Hp → Prop) (o : W → W → Store → Res W) : R2 := fun x y H Q => ∃ m wx wy S, RepS K m H S ∧ RepW K m H x wx ∧ RepW K m H y wy ∧ Post K E m H (o wx wy S) (CV K Q)
def rU1 (K : PySem.W.Frag) (E : Str → Hp → Prop) (o : W → Store → Res W) : V → Hp → VK → Prop := fun x H Q => ∃ m wx S, RepS K m H S ∧ RepW K m H x wx ∧ Post K E m H (o wx S) (CV K Q)
def rF (K : PySem.W.Frag) (E : Str → Hp → Prop) (F : List W → Store → Res W) : List V → Hp → VK → Prop := fun xs H Q => ∃ m ws S, RepS K m H S ∧ RepWs K m H xs ws ∧ Post K E m H (F ws S) (CV K Q)
theorem _root_.L2.OpR.weak {f : Value → Value → Sem Value} {r r' : R2} (h : OpR X f r) (i : ∀ x y H Q, r' x y H Q → r x y H Q) : OpR X f r' := fun pins s σ H x y v u Q I rx ry q => h pins s σ H x y v u Q I rx ry (i x y H Q q)
theorem _root_.L2.UnR.weak {f : Value → Sem Value} {r r' : V → Hp → VK → Prop} (h : UnR X f r) (i : ∀ x H Q, r' x H Q → r x H Q) : UnR X f r' := fun pins s σ H x v Q I rx q => h pins s σ H x v Q I rx (i x H Q q)
theorem _root_.L2.CallR.weak {f : Value} {r r' : List V → Hp → VK → Prop} (h : CallR X f r) (i : ∀ xs H Q, r' xs H Q → r xs H Q) : CallR X f r' := fun pins s σ H x v Q I rx q => h pins s σ H x v Q I rx (i x H Q q)
theorem _root_.L2.IxR.weak {r r' : R2} (h : IxR X r) (i : ∀ x y H Q, r' x y H Q → r x y H Q) : IxR X r' := fun value slice pins s σ H x y v u Q I rx ry q hs => h value slice pins s σ H x y v u Q I rx ry (i x y H Q q) hs

theorem ev_var {i : Nat} {x : Str} (hN : X.N[i]? = some x := by rfl) (hv : Vis X.env.scope x := by first | exact Or.inl rfl | exact Or.inr (Or.inl rfl) | exact Or.inr (Or.inr rfl)) (hd : (x == ("__debug__" : Str)) = false := by decide)
    (hcd : (x == ("__classdict__" : Str)) = false := by decide) : PEv X E (.Name x pos) (eVar i) := (pe_var hN hv hd hcd).weak fun σ H Q ⟨m, d, S, he, hs, hp⟩ => by
  unfold eVar at hp
  split at hp
  · rename_i w e
    obtain ⟨v, e1, r⟩ := he.get i w e
    exact ⟨v, e1, hp.ok hs v r⟩
  · exact hp.elim
theorem ev_int {i j} : PEv X E (.Constant (.int i) j pos) (eC (.int i)) := pe_int.weak fun σ H Q ⟨m, d, S, he, hs, hp⟩ => hp.ok hs _ (.int i)
theorem ev_bl {i j} : PEv X E (.Constant (.bool i) j pos) (eC (.bl i)) := pe_bl.weak fun σ H Q ⟨m, d, S, he, hs, hp⟩ => hp.ok hs _ (.bl i)
theorem ev_non {j} : PEv X E (.Constant .none j pos) (eC .non) := pe_non.weak fun σ H Q ⟨m, d, S, he, hs, hp⟩ => hp.ok hs _ .non
theorem ev_str {i j} : PEv X E (.Constant (.str i) j pos) (eC (.str i)) := pe_str.weak fun σ H Q ⟨m, d, S, he, hs, hp⟩ => hp.ok hs _ (.str i)
theorem rE_op {K : PySem.W.Frag} {o : W → W → Store → Res W} {σ : L2.St} {H : Hp} {Q : VK} (q : rE K E (eOp o f g) σ H Q) : tOp (rO K E o) (rE K E f) (rE K E g) σ H Q := by
  obtain ⟨m, d, S, he, hs, hp⟩ := q
  refine ⟨m, d, S, he, hs, Post.bind hp fun x S1 m1 H1 s1 r1 h1 v rv => ⟨m1, d, S1, he.step s1.g, r1, Post.bind h1 fun y S2 m2 H2 s2 r2 h2 u ru => ?_⟩⟩
  exact ⟨m2, x, y, S2, r2, rv.step s2.g, ru, h2⟩
theorem ev_op {op : Operator} {o : W → W → Store → Res W} (ho : OpR X (binaryOp op) (rO X.K E o)) (ha : PEv X E a f) (hb : PEv X E b g) : PEv X E (.BinOp a op b pos) (eOp o f g) := (pe_op ho ha hb).weak fun _ _ _ q => rE_op q
theorem ev_cmp {op : CmpOp} {o : W → W → Store → Res W} (ho : OpR X (compareOp op) (rO X.K E o)) (ha : PEv X E a f) (hb : PEv X E b g) (hm : behindInMarks op b = false := by first | exact nomark _ | rfl) : PEv X E (.Compare a [op] [b] pos) (eOp o f g) := (pe_cmpR ho ha hb hm).weak fun _ _ _ q => rE_op q
theorem ev_ix {o : W → W → Store → Res W} (ho : IxR X (rO X.K E o)) (ha : PEv X E a f) (hb : PEv X E b g) (hs : PlainIx b := by exact fun _ _ => rfl) : PEv X E (.Subscript a b pos) (eOp o f g) := (pe_ix ho ha hb hs).weak fun _ _ _ q => rE_op q
theorem ev_un {op : UnaryOp} {o : W → Store → Res W} (ho : UnR X (unaryOp op) (rU1 X.K E o)) (ha : PEv X E a f) : PEv X E (.UnaryOp op a pos) (eUn o f) := (pe_un ho ha).weak fun σ H Q ⟨m, d, S, he, hs, hp⟩ =>
  ⟨m, d, S, he, hs, Post.bind hp fun x S1 m1 H1 s1 r1 h1 v rv => ⟨m1, x, S1, r1, rv, h1⟩⟩
theorem ev_chain {op op' : CmpOp} {o o' : W → W → Store → Res W} (ho : OpR X (compareOp op) (rO X.K E o)) (ho' : OpR X (compareOp op') (rO X.K E o')) (ha : PEv X E a f) (hb : PEv X E b g) (hc : PEv X E c h) (hm : lastMarks [op, op'] [b, c] = false := by rfl) :
    PEv X E (.Compare a [op, op'] [b, c] pos) (eChain o o' f g h) := (pe_chain ho ho' ha hb hc hm).weak fun σ H Q ⟨m, d, S, he, hs, hp⟩ => by
  refine ⟨m, d, S, he, hs, Post.bind hp fun x S1 m1 H1 s1 r1 h1 v rv => ⟨m1, d, S1, he.step s1.g, r1, Post.bind h1 fun y S2 m2 H2 s2 r2 h2 u ru => ?_⟩⟩
  refine ⟨m2, x, y, S2, r2, rv.step s2.g, ru, Post.bind h2 fun z S3 m3 H3 s3 r3 h3 t rt => ?_⟩
  cases rt with
  | bl k =>
    refine ⟨k, rfl, ?_⟩
    cases k with
    | true =>
      refine iteT ⟨m3, d, S3, he.step (s1.trans (s2.trans s3)).g, r3, Post.bind h3 fun z4 S4 m4 H4 s4 r4 h4 t4 rt4 => ?_⟩
      exact ⟨m4, y, z4, S4, r4, ru.step (s3.trans s4).g, rt4, h4⟩
    | false => exact iteF (h3.ok r3 _ (.bl false))
  | _ => exact h3.elim
/-! arguments, displays, calls -/
theorem av_nil : PAv X E [] aNil := pa_nil.weak fun σ H Q ⟨m, d, S, he, hs, hp⟩ => hp.ok hs _ .nil
theorem av_cons (ha : PEv X E e f) (hr : PAv X E es fa) (hs : starEach (e :: es) X.env = (false, eval e X.env) :: starEach es X.env := by rfl) : PAv X E (e :: es) (aCons f fa) := (pa_cons ha hr hs).weak fun σ H Q ⟨m, d, S, he, hs, hp⟩ => by
  refine ⟨m, d, S, he, hs, Post.bind hp fun x S1 m1 H1 s1 r1 h1 v rv => ⟨m1, d, S1, he.step s1.g, r1, Post.bind h1 fun xs S2 m2 H2 s2 r2 h2 vs rvs => ?_⟩⟩
  exact h2.ok r2 _ (.cons (rv.step s2.g) rvs)
theorem ev_tup {x1} (h : PAv X E es fa) : PEv X E (.Tuple es x1 pos) (eTup fa) := (pe_tupF h).weak fun σ H Q ⟨m, d, S, he, hs, hp⟩ => by
  refine ⟨m, d, S, he, hs, Post.bind hp fun ws S1 m1 H1 s1 r1 h1 vs rv => ?_⟩
  unfold mkTup at h1
  split at h1
  · rename_i hl
    exact ⟨small hl rv, fun p ob np hc hd => h1 m1 _ (r1.allocS np) (r1.alloc np) _ (newTup r1 np hc hd rv)⟩
  · exact h1.elim
theorem ev_lst (h : PAv X E es fa) : PEv X E (.List es pos) (eLst fa) := (pe_lst h).weak fun σ H Q ⟨m, d, S, he, hs, hp⟩ => by
  refine ⟨m, d, S, he, hs, Post.bind hp fun ws S1 m1 H1 s1 r1 h1 vs rv => ?_⟩
  unfold mkLst at h1
  split at h1
  · rename_i hl
    exact ⟨small hl rv, fun p np => h1 m1 _ (r1.allocS np) (r1.alloc np) _ (newLst r1 np rv)⟩
  · exact h1.elim
theorem ev_new (h : PAv X E es fa) : PEv X E (.List es pos) (eNew fa) := (pe_lst h).weak fun σ H Q ⟨m, d, S, he, hs, hp⟩ => by
  refine ⟨m, d, S, he, hs, Post.bind hp fun ws S1 m1 H1 s1 r1 h1 vs rv => ?_⟩
  unfold mkNew at h1
  split at h1
  · rename_i hl
    exact ⟨small hl rv, fun p np => h1 _ _ (r1.pushS np) (r1.push np rv) _ (.mt (l := []) (by rw [← r1.len]; simp [Own.push]))⟩
  · exact h1.elim
theorem ev_cb {x : Str} {p : Pos} {id : String} {F : List W → Store → Res W} (hc : CallR X (.builtin id) (rF X.K E F)) (hg : Gl X x) (hm : X.mg x = none) (hv : bootBuiltins x = some (.builtin id)) (ha : PAv X E (e :: es) fa) (hn : x ≠ "__name__" := by decide) (hdb : (x == ("__debug__" : Str)) = false := by decide)
    (he : starEach (e :: es) X.env = (false, eval e X.env) :: starEach es X.env := by rfl) (hpl : (backTo pos (starEach es X.env)).any (·.1) = false := by rfl) : PEv X E (.Call (.Name x p) (e :: es) [] pos) (eCall F fa) := (pe_callB hc hg hm hv ha hn hdb he hpl).weak fun σ H Q ⟨m, d, S, he, hs, hp⟩ =>
  ⟨m, d, S, he, hs, Post.bind hp fun ws S1 m1 H1 s1 r1 h1 vs rv => ⟨m1, ws, S1, r1, rv, h1⟩⟩
theorem ev_ct {x : Str} {p : Pos} {id : String} {F : List W → Store → Res W} (hc : CallR X (.type id) (rF X.K E F)) (hg : Gl X x) (hm : X.mg x = none) (hv : bootBuiltins x = some (.type id)) (ha : PAv X E (e :: es) fa) (hn : x ≠ "__name__" := by decide) (hdb : (x == ("__debug__" : Str)) = false := by decide)
    (he : starEach (e :: es) X.env = (false, eval e X.env) :: starEach es X.env := by rfl) (hpl : (backTo pos (starEach es X.env)).any (·.1) = false := by rfl) : PEv X E (.Call (.Name x p) (e :: es) [] pos) (eCall F fa) := (pe_callTy hc hg hm hv ha hn hdb he hpl).weak fun σ H Q ⟨m, d, S, he, hs, hp⟩ =>
  ⟨m, d, S, he, hs, Post.bind hp fun ws S1 m1 H1 s1 r1 h1 vs rv => ⟨m1, ws, S1, r1, rv, h1⟩⟩
/-! and, or, not -/
theorem ev_one {op} (h : PEv X E a f) : PEv X E (.BoolOp op [a] pos) f := pe_one h
variable {rest : List Expr}
theorem ev_and (ha : PEv X E a f) (hb : PEv X E (.BoolOp .And (b :: rest) pos) g) : PEv X E (.BoolOp .And (a :: b :: rest) pos) (eAnd f g) := (pe_and ha hb).weak fun σ H Q ⟨m, d, S, he, hs, hp⟩ => by
  refine ⟨m, d, S, he, hs, Post.bind hp fun x S1 m1 H1 s1 r1 h1 v rv => ?_⟩
  cases rv with
  | bl k =>
    refine ⟨k, rfl, ?_⟩
    cases k with
    | true => exact iteT ⟨m1, d, S1, he.step s1.g, r1, h1⟩
    | false => exact iteF (h1.ok r1 _ (.bl false))
  | _ => exact h1.elim
theorem ev_or (ha : PEv X E a f) (hb : PEv X E (.BoolOp .Or (b :: rest) pos) g) : PEv X E (.BoolOp .Or (a :: b :: rest) pos) (eOr f g) := (pe_or ha hb).weak fun σ H Q ⟨m, d, S, he, hs, hp⟩ => by
  refine ⟨m, d, S, he, hs, Post.bind hp fun x S1 m1 H1 s1 r1 h1 v rv => ?_⟩
  cases rv with
  | bl k =>
    refine ⟨k, rfl, ?_⟩
    cases k with
    | true => exact iteT (h1.ok r1 _ (.bl true))
    | false => exact iteF ⟨m1, d, S1, he.step s1.g, r1, h1⟩
  | _ => exact h1.elim
theorem ev_not (ha : PEv X E a f) : PEv X E (.UnaryOp .Not a pos) (eUn wNot f) := (pe_not ha).weak fun σ H Q ⟨m, d, S, he, hs, hp⟩ => by
  refine ⟨m, d, S, he, hs, Post.bind hp fun x S1 m1 H1 s1 r1 h1 v rv => ?_⟩
  cases rv with
  | bl k => exact ⟨k, rfl, h1.ok r1 _ (.bl _)⟩
  | _ => exact h1.elim
/-! tests -/
variable {fb gb : BF}
theorem tv_val (h : PEv X E e f) (he : ∀ whole, isTrue e X.env whole = (do let v ← whole; standAt e.pos; holding [v] (truthy v)) := by intro _; rfl) : PTv X E e (bVal f) := (pt_val h he).weak fun σ H Q ⟨m, d, S, he, hs, hp⟩ => by
  refine ⟨m, d, S, he, hs, Post.bind hp fun x S1 m1 H1 s1 r1 h1 v rv => ?_⟩
  cases rv with
  | bl k => exact ⟨k, rfl, h1.ok r1⟩
  | _ => exact h1.elim
theorem tv_cmp {op : CmpOp} {o : W → W → Store → Res W} (ho : OpR X (compareOp op) (rO X.K E o)) (ha : PEv X E a f) (hb : PEv X E b g) (hm : behindInMarks op b = false := by first | exact nomark _ | rfl) : PTv X E (.Compare a [op] [b] pos) (bVal (eOp o f g)) := (pt_cmpR ho ha hb hm).weak fun σ H Q ⟨m, d, S, he, hs, hp⟩ => by
  have q : tOp (rO X.K E o) (rE X.K E f) (rE X.K E g) σ H (fun x H1 => ∃ k, x = .bl k ∧ Q k H1) := rE_op ⟨m, d, S, he, hs, Post.bind hp fun x S1 m1 H1 s1 r1 h1 v rv => by
    cases rv with
    | bl k => exact ⟨k, rfl, h1.ok r1⟩
    | _ => exact h1.elim⟩
  exact q
theorem tv_not (ha : PTv X E a fb) : PTv X E (.UnaryOp .Not a pos) (bNot fb) := (pt_not ha).weak fun σ H Q ⟨m, d, S, he, hs, hp⟩ =>
  ⟨m, d, S, he, hs, Post.bind hp fun x S1 m1 H1 s1 r1 h1 => h1.ok r1⟩
theorem wv_and1 (ha : PTv X E a fb) : PWv X E (.BoolOp .And [a] pos) fb := pw_and1 ha
theorem wv_or1 (ha : PTv X E a fb) : PWv X E (.BoolOp .Or [a] pos) fb := pw_or1 ha
theorem wv_and (ha : PTv X E a fb) (hb : PWv X E (.BoolOp .And (b :: rest) pos) gb) : PWv X E (.BoolOp .And (a :: b :: rest) pos) (bAnd fb gb) := (pw_and ha hb).weak fun σ H Q ⟨m, d, S, he, hs, hp⟩ => by
  refine ⟨m, d, S, he, hs, Post.bind hp fun k S1 m1 H1 s1 r1 h1 => ?_⟩
  cases k with
  | true =>
    show rB X.K E gb σ H1 Q
    exact ⟨m1, d, S1, he.step s1.g, r1, h1⟩
  | false =>
    show Q false H1
    exact h1.ok r1
theorem wv_or (ha : PTv X E a fb) (hb : PWv X E (.BoolOp .Or (b :: rest) pos) gb) : PWv X E (.BoolOp .Or (a :: b :: rest) pos) (bOr fb gb) := (pw_or ha hb).weak fun σ H Q ⟨m, d, S, he, hs, hp⟩ => by
  refine ⟨m, d, S, he, hs, Post.bind hp fun k S1 m1 H1 s1 r1 h1 => ?_⟩
  cases k with
  | true =>
    show Q true H1
    exact h1.ok r1
  | false =>
    show rB X.K E gb σ H1 Q
    exact ⟨m1, d, S1, he.step s1.g, r1, h1⟩
theorem ev_if {c : Expr} (hc : PTv X E c fb) (ha : PEv X E a f) (hb : PEv X E b g) : PEv X E (.IfExp c a b pos) (eIf fb f g) := (pe_ifExp hc ha hb).weak fun σ H Q ⟨m, d, S, he, hs, hp⟩ => by
  refine ⟨m, d, S, he, hs, Post.bind hp fun k S1 m1 H1 s1 r1 h1 => ?_⟩
  cases k with
  | true =>
    show rE X.K E f σ H1 Q
    exact ⟨m1, d, S1, he.step s1.g, r1, h1⟩
  | false =>
    show rE X.K E g σ H1 Q
    exact ⟨m1, d, S1, he.step s1.g, r1, h1⟩
end
end Iv
end
section
set_option maxHeartbeats 2000000
set_option maxRecDepth 100000
namespace Iv
open PySem L2

/-! ### data -/
mutual
def dat : W → Option PyData
  | .non => some .none
  | .bl b => some (.bool b)
  | .int i => some (.int i)
  | .str s => some (.str s)
  | .tup ws => (datL ws).map .tuple
  | .lst ws => (datL ws).map .list
  | .scr ns => some (.list (ns.map .int))
  | .mt _ => none
  | .obj _ => none
def datL : List W → Option (List PyData)
  | [] => some []
  | w :: ws => match dat w, datL ws with
    | some d, some ds => some (d :: ds)
    | _, _ => none
end
def datS (w : W) (S : Store) : Option PyData := match w with
  | .mt k => match S[k]? with
    | some (.L ws) => (datL ws).map .list
    | _ => none
  | w => dat w
section
variable {K : PySem.W.Frag} {m m' : Own} {H H' : Hp} {S S' : Store} {v : V} {w : W} {ws : List W}
theorem dp_ints : ∀ ns : List Int, DpAll K H (ns.map V.int) (ns.map PyData.int)
  | [] => .nil
  | n :: r => .cons (.int n) (dp_ints r)
mutual
theorem RepW.dp : ∀ {v : V} {w : W} {d : PyData}, RepW K m H v w → dat w = some d → Dp K H v d
  | _, _, _, .non, h => by simp only [dat, Option.some.injEq] at h; subst h; exact .non
  | _, _, _, .bl b, h => by simp only [dat, Option.some.injEq] at h; subst h; exact .bl b
  | _, _, _, .int b, h => by simp only [dat, Option.some.injEq] at h; subst h; exact .int b
  | _, _, _, .str b, h => by simp only [dat, Option.some.injEq] at h; subst h; exact .str b
  | _, _, _, .tup hl hr, h => by
    simp only [dat, Option.map_eq_some_iff] at h
    obtain ⟨ds, h1, rfl⟩ := h
    exact .tup hl.sq (RepWs.dp hr h1)
  | _, _, _, .lst hl hr, h => by
    simp only [dat, Option.map_eq_some_iff] at h
    obtain ⟨ds, h1, rfl⟩ := h
    exact .lst hl.sq (RepWs.dp hr h1)
  | _, _, _, .scr hl, h => by
    simp only [dat, Option.some.injEq] at h
    subst h
    exact .lst hl.sq (dp_ints _)
  | _, _, _, .mt _, h => by simp [dat] at h
  | _, _, _, .obj _, h => by simp [dat] at h
theorem RepWs.dp : ∀ {vs : List V} {ws : List W} {ds : List PyData}, RepWs K m H vs ws → datL ws = some ds → DpAll K H vs ds
  | _, _, _, .nil, h => by simp only [datL, Option.some.injEq] at h; subst h; exact .nil
  | _, _, _, .cons hv hr, h => by
    simp only [datL] at h
    split at h
    · rename_i d ds' e1 e2
      cases h
      exact .cons (RepW.dp hv e1) (RepWs.dp hr e2)
    · cases h
end
theorem RepW.dpS (rs : RepS K m H S) (r : RepW K m H v w) {d : PyData} (h : datS w S = some d) : Dp K H v d := by
  cases r with
  | @mt k a l e =>
    obtain ⟨o, a', l', e1, e2, q⟩ := rs.get e
    cases e2
    simp only [datS, e1] at h
    cases o with
    | L zs =>
      simp only [Option.map_eq_some_iff] at h
      obtain ⟨ds, h1, rfl⟩ := h
      obtain ⟨_, vs, h2, h3⟩ := q
      exact .lst (.inl (.inl h2)) (h3.dp h1)
    | _ => cases h
  | non => exact RepW.dp (m := m) .non h
  | bl b => exact RepW.dp (m := m) (.bl b) h
  | int b => exact RepW.dp (m := m) (.int b) h
  | str b => exact RepW.dp (m := m) (.str b) h
  | tup h1 h2 => exact RepW.dp (.tup h1 h2) h
  | lst h1 h2 => exact RepW.dp (.lst h1 h2) h
  | scr h1 => exact RepW.dp (.scr h1) h
  | obj v => exact RepW.dp (m := m) (.obj v) h
end

/-! ### arithmetic -/
def wAdd (x y : W) (S : Store) : Res W := match x, y with
  | .int i, .int j => .ok (.int (i + j)) S
  | .str i, .str j => if i.length + j.length ≤ 100000 then .ok (.str (i ++ j)) S else .bad
  | .tup a, .tup b => if a.length + b.length ≤ 100000 then .ok (.tup (a ++ b)) S else .bad
  | x, y => match listOf x S, listOf y S with
    | some a, some b => if a.length + b.length ≤ 100000 then .ok (.lst (a ++ b)) S else .bad
    | _, _ => .bad
def wSub (x y : W) (S : Store) : Res W := match x, y with
  | .int i, .int j => .ok (.int (i - j)) S
  | _, _ => .bad
def mulOk (i j : Int) : Prop := (-(2 ^ 64) < i ∧ i < 2 ^ 64) ∨ (-(2 ^ 64) < j ∧ j < 2 ^ 64)
instance (i j : Int) : Decidable (mulOk i j) := inferInstanceAs (Decidable (_ ∨ _))
def wMul (x y : W) (S : Store) : Res W := match x, y with
  | .int i, .int j => if mulOk i j then .ok (.int (i * j)) S else .bad
  | x, .int j => match listOf x S with
    | some a => if 0 ≤ j ∧ j ≤ 1000 ∧ a.length * j.toNat ≤ 100000 then .ok (.lst (List.replicate j.toNat a).flatten) S else .bad
    | _ => .bad
  | _, _ => .bad
def wFdiv (x y : W) (S : Store) : Res W := match x, y with
  | .int i, .int j => if 0 < j ∧ j < 18446744073709551616 then .ok (.int (i / j)) S else .bad
  | _, _ => .bad
def wMod (x y : W) (S : Store) : Res W := match x, y with
  | .int i, .int j => if 0 < j then .ok (.int (i % j)) S else .bad
  | _, _ => .bad
def wPow (x y : W) (S : Store) : Res W := match x, y with
  | .int i, .int j => if 0 ≤ j ∧ j ≤ 1000000 ∧ i.natAbs < 2 ^ 64 then .ok (.int (i ^ j.toNat)) S else .bad
  | _, _ => .bad
def wNeg (x : W) (S : Store) : Res W := match x with
  | .int i => .ok (.int (-i)) S
  | _ => .bad
def wEq (x y : W) (S : Store) : Res W := match datS x S, datS y S with
  | some d, some e => if (SeqAt.shaped d && SeqAt.shaped e) = true then .ok (.bl (PyData.eqv d e)) S else .bad
  | _, _ => .bad
def wNe (x y : W) (S : Store) : Res W := match datS x S, datS y S with
  | some d, some e => if (SeqAt.shaped d && SeqAt.shaped e) = true then .ok (.bl (!PyData.eqv d e)) S else .bad
  | _, _ => .bad
/-- ints in a row -/
def intsOf : List W → Option (List Int)
  | [] => some []
  | .int i :: r => (intsOf r).map (i :: ·)
  | _ :: _ => none
def wLt (x y : W) (S : Store) : Res W := match x, y with
  | .int i, .int j => .ok (.bl (decide (i < j))) S
  | .tup a, .tup b => match intsOf a, intsOf b with
    | some ns, some ms => .ok (.bl (HT.lexLt ns ms)) S
    | _, _ => .bad
  | _, _ => .bad
def wLe (x y : W) (S : Store) : Res W := match x, y with
  | .int i, .int j => .ok (.bl (decide (i ≤ j))) S
  | _, _ => .bad
def wGt (x y : W) (S : Store) : Res W := match x, y with
  | .int i, .int j => .ok (.bl (decide (j < i))) S
  | _, _ => .bad
def wGe (x y : W) (S : Store) : Res W := match x, y with
  | .int i, .int j => .ok (.bl (decide (j ≤ i))) S
  | _, _ => .bad
def wIs (x y : W) (S : Store) : Res W := match x, y with
  | .bl a, .bl b => .ok (.bl (decide (a = b))) S
  | .obj _, _ => .bad
  | x, .non => .ok (.bl (match x with | .non => true | _ => false)) S
  | _, _ => .bad
def wIsNot (x y : W) (S : Store) : Res W := match x, y with
  | .bl a, .bl b => .ok (.bl (!decide (a = b))) S
  | .obj _, _ => .bad
  | x, .non => .ok (.bl (match x with | .non => false | _ => true)) S
  | _, _ => .bad
def isFlat : W → Bool
  | .non => true
  | .bl _ => true
  | .int _ => true
  | .str _ => true
  | _ => false
/-- x in y -/
def inW (x y : W) (S : Store) : Option Bool := match x, y with
  | .str a, .str b => some (!(Builtin.Str.occurrences b a 0 b.length 1).isEmpty)
  | x, .tup ws => match dat x, datL ws with
    | some d, some ds => if (isFlat x && ws.all isFlat) = true then some (ds.any fun z => PyData.eqv z d) else none
    | _, _ => none
  | x, y => match datS x S, listOf y S with
    | some d, some ws => match datL ws with
      | some ds => if (SeqAt.shaped d && SeqAt.shaped (.list ds)) = true then some (ds.any fun z => PyData.eqv z d) else none
      | none => none
    | _, _ => none
def wIn (x y : W) (S : Store) : Res W := match inW x y S with
  | some b => .ok (.bl b) S
  | none => .bad
def wNotIn (x y : W) (S : Store) : Res W := match inW x y S with
  | some b => .ok (.bl (!b)) S
  | none => .bad
/-- x[i] -/
def wIx (x y : W) (S : Store) : Res W := match x, y with
  | .str z, .int i => if z.length ≤ 100000 then (match L2.atI z.cps.toList i with
    | some c => .ok (.str ⟨#[c]⟩) S
    | none => .bad) else .bad
  | x, .int i => match seqOf x S with
    | some ws => match L2.atI ws i with
      | some w => .ok w S
      | none => .bad
    | none => .bad
  | _, _ => .bad

section
variable {X : Cx} {E : Str → Hp → Prop}
theorem repLits : ∀ {K : PySem.W.Frag} {m : Own} {H : Hp} {vs : List V} {ws : List W} {ns : List Int}, RepWs K m H vs ws → intsOf ws = some ns → vs = ns.map V.int
  | _, _, _, _, _, ns, .nil, h => by
    simp only [intsOf, Option.some.injEq] at h
    subst h
    rfl
  | _, _, _, _, _, ns, .cons hv hr, h => by
    cases hv with
    | int i =>
      simp only [intsOf, Option.map_eq_some_iff] at h
      obtain ⟨r, h1, rfl⟩ := h
      rw [repLits hr h1]
      rfl
    | _ => simp [intsOf] at h
theorem o_add : OpR X (binaryOp .Add) (rO X.K E wAdd) := ((op_add.or op_add_str).or (op_catF.or op_cat)).weak fun x y H Q ⟨m, wx, wy, S, rs, rx, ry, hp⟩ => by
  unfold wAdd at hp
  split at hp
  · cases rx; cases ry
    exact .inl (.inl ⟨_, _, rfl, rfl, hp.ok rs _ (.int _)⟩)
  · cases rx; cases ry
    split at hp
    · rename_i hl
      exact .inl (.inr ⟨_, _, rfl, rfl, Nat.le_trans hl (by decide), hp.ok rs _ (.str _)⟩)
    · exact hp.elim
  · cases rx with
    | tup h1 h2 => cases ry with
      | tup h3 h4 =>
        split at hp
        · rename_i hl
          refine .inr (.inl ⟨_, _, _, _, rfl, rfl, h1.sq, h3.sq, by rw [h2.length, h4.length]; exact Nat.le_trans hl (by decide), fun e => ?_, fun _ e => ?_, fun _ _ p ob np hc hd => ?_⟩)
          · subst e
            cases h2
            exact hp.ok rs _ (.tup h3 h4)
          · subst e
            cases h4
            have q := hp.ok rs
            rw [List.append_nil] at q
            exact q _ (.tup h1 h2)
          · exact hp m _ (rs.allocS np) (rs.alloc np) _ (newTup rs np hc hd (h2.append h4))
        · exact hp.elim
  · split at hp
    · rename_i e1 e2
      split at hp
      · rename_i hl
        obtain ⟨a, vs, rfl, ha, ra⟩ := rx.list rs e1
        obtain ⟨b, us, rfl, hb, rb⟩ := ry.list rs e2
        exact .inr (.inr ⟨a, b, vs, us, rfl, rfl, ha, hb, by rw [ra.length, rb.length]; exact Nat.le_trans hl (by decide), fun p np => hp m _ (rs.allocS np) (rs.alloc np) _ (newLst rs np (ra.append rb))⟩)
      · exact hp.elim
    · exact hp.elim
theorem o_sub : OpR X (binaryOp .Sub) (rO X.K E wSub) := op_sub.weak fun x y H Q ⟨m, wx, wy, S, rs, rx, ry, hp⟩ => by
  unfold wSub at hp
  split at hp
  · cases rx; cases ry
    exact ⟨_, _, rfl, rfl, hp.ok rs _ (.int _)⟩
  · exact hp.elim
theorem RepWs.rep {K : PySem.W.Frag} {m : Own} {H : Hp} {vs : List V} {ws : List W} (r : RepWs K m H vs ws) : ∀ n, RepWs K m H (List.replicate n vs).flatten (List.replicate n ws).flatten
  | 0 => .nil
  | n + 1 => by
    simp only [List.replicate_succ, List.flatten_cons]
    exact r.append (r.rep n)
theorem o_mul : OpR X (binaryOp .Mult) (rO X.K E wMul) := (op_mul.or op_rep).weak fun x y H Q ⟨m, wx, wy, S, rs, rx, ry, hp⟩ => by
  unfold wMul at hp
  split at hp
  · cases rx; cases ry
    split at hp
    · rename_i h
      exact .inl ⟨_, _, rfl, rfl, h, hp.ok rs _ (.int _)⟩
    · exact hp.elim
  · cases ry
    split at hp
    · rename_i e1
      split at hp
      · rename_i hl
        obtain ⟨a, vs, rfl, ha, ra⟩ := rx.list rs e1
        exact .inr ⟨a, _, vs, rfl, rfl, ha, by omega, by omega, by rw [ra.length]; exact Nat.le_trans hl.2.2 (by decide), fun p np => hp m _ (rs.allocS np) (rs.alloc np) _ (newLst rs np (ra.rep _))⟩
      · exact hp.elim
    · exact hp.elim
  · exact hp.elim
def CDivW (i j : Int) : Prop := 0 < j ∧ j < 18446744073709551616
theorem op_fdivW : OpR X (binaryOp .FloorDiv) (rI CDivW fun i j => .int (i / j)) := opI fun i j _ _ _ _ _ hc q => by
  obtain ⟨h1, h2⟩ : 0 < j ∧ j < 18446744073709551616 := hc
  have h3 : j.natAbs ≠ 0 := by omega
  have h4 : j.natAbs.log2 < 64 := (Nat.log2_lt h3).mpr (by omega)
  have h5 : i.fdiv j = i / j := Int.fdiv_eq_ediv_of_nonneg i (by omega)
  refine PyProof.Rows.floordiv_int (by omega) ?_ (.inl (PyProof.noPylong_of_log2 (by omega)))
  rw [h5]
  exact q
theorem o_fdiv : OpR X (binaryOp .FloorDiv) (rO X.K E wFdiv) := op_fdivW.weak fun x y H Q ⟨m, wx, wy, S, rs, rx, ry, hp⟩ => by
  unfold wFdiv at hp
  split at hp
  · cases rx; cases ry
    split at hp
    · rename_i h
      exact ⟨_, _, rfl, rfl, h, hp.ok rs _ (.int _)⟩
    · exact hp.elim
  · exact hp.elim
theorem o_mod : OpR X (binaryOp .Mod) (rO X.K E wMod) := op_mod.weak fun x y H Q ⟨m, wx, wy, S, rs, rx, ry, hp⟩ => by
  unfold wMod at hp
  split at hp
  · cases rx; cases ry
    split at hp
    · rename_i h
      exact ⟨_, _, rfl, rfl, h, hp.ok rs _ (.int _)⟩
    · exact hp.elim
  · exact hp.elim
theorem o_pow : OpR X (binaryOp .Pow) (rO X.K E wPow) := op_pow.weak fun x y H Q ⟨m, wx, wy, S, rs, rx, ry, hp⟩ => by
  unfold wPow at hp
  split at hp
  · cases rx; cases ry
    split at hp
    · rename_i h
      exact ⟨_, _, rfl, rfl, h, hp.ok rs _ (.int _)⟩
    · exact hp.elim
  · exact hp.elim
theorem u_neg : UnR X (unaryOp .USub) (rU1 X.K E wNeg) := un_neg.weak fun x H Q ⟨m, wx, S, rs, rx, hp⟩ => by
  unfold wNeg at hp
  split at hp
  · cases rx
    exact ⟨_, rfl, hp.ok rs _ (.int _)⟩
  · exact hp.elim
theorem o_eq (hu : X.A.units + 64 < cLine) : OpR X (compareOp .Eq) (rO X.K E wEq) := (op_eqD hu).weak fun x y H Q ⟨m, wx, wy, S, rs, rx, ry, hp⟩ => by
  unfold wEq at hp
  split at hp
  · rename_i d e h1 h2
    split at hp
    · rename_i hs
      rw [Bool.and_eq_true] at hs
      exact ⟨d, e, rx.dpS rs h1, ry.dpS rs h2, hs.1, hs.2, hp.ok rs _ (.bl _)⟩
    · exact hp.elim
  · exact hp.elim
theorem o_ne (hu : X.A.units + 64 < cLine) : OpR X (compareOp .NotEq) (rO X.K E wNe) := (op_neD hu).weak fun x y H Q ⟨m, wx, wy, S, rs, rx, ry, hp⟩ => by
  unfold wNe at hp
  split at hp
  · rename_i d e h1 h2
    split at hp
    · rename_i hs
      rw [Bool.and_eq_true] at hs
      exact ⟨d, e, rx.dpS rs h1, ry.dpS rs h2, hs.1, hs.2, hp.ok rs _ (.bl _)⟩
    · exact hp.elim
  · exact hp.elim
theorem o_lt (hu : X.A.units < cLine) : OpR X (compareOp .Lt) (rO X.K E wLt) := (op_lt.or (op_ltT hu)).weak fun x y H Q ⟨m, wx, wy, S, rs, rx, ry, hp⟩ => by
  unfold wLt at hp
  split at hp
  · cases rx; cases ry
    exact .inl ⟨_, _, rfl, rfl, hp.ok rs _ (.bl _)⟩
  · split at hp
    · rename_i e1 e2
      cases rx with
      | tup h1 h2 => cases ry with
        | tup h3 h4 =>
          have q1 := repLits h2 e1
          have q2 := repLits h4 e2
          subst q1 q2
          exact .inr ⟨_, _, _, _, rfl, rfl, h1.sq, h3.sq, hp.ok rs _ (.bl _)⟩
    · exact hp.elim
  · exact hp.elim
theorem o_le : OpR X (compareOp .LtE) (rO X.K E wLe) := op_le.weak fun x y H Q ⟨m, wx, wy, S, rs, rx, ry, hp⟩ => by
  unfold wLe at hp
  split at hp
  · cases rx; cases ry
    exact ⟨_, _, rfl, rfl, hp.ok rs _ (.bl _)⟩
  · exact hp.elim
theorem o_gt : OpR X (compareOp .Gt) (rO X.K E wGt) := op_gt.weak fun x y H Q ⟨m, wx, wy, S, rs, rx, ry, hp⟩ => by
  unfold wGt at hp
  split at hp
  · cases rx; cases ry
    exact ⟨_, _, rfl, rfl, hp.ok rs _ (.bl _)⟩
  · exact hp.elim
theorem o_ge : OpR X (compareOp .GtE) (rO X.K E wGe) := op_ge.weak fun x y H Q ⟨m, wx, wy, S, rs, rx, ry, hp⟩ => by
  unfold wGe at hp
  split at hp
  · cases rx; cases ry
    exact ⟨_, _, rfl, rfl, hp.ok rs _ (.bl _)⟩
  · exact hp.elim
theorem o_is : OpR X (compareOp .Is) (rO X.K E wIs) := (op_is_bl.or op_isN).weak fun x y H Q ⟨m, wx, wy, S, rs, rx, ry, hp⟩ => by
  unfold wIs at hp
  split at hp
  · cases rx; cases ry
    exact .inl ⟨_, _, rfl, rfl, hp.ok rs _ (.bl _)⟩
  · exact hp.elim
  · rename_i h1 h2
    cases ry
    refine .inr ⟨rfl, ?_⟩
    cases rx with
    | obj => exact (h2 _ rfl).elim
    | _ => exact hp.ok rs _ (.bl _)
  · exact hp.elim
theorem o_isnot : OpR X (compareOp .IsNot) (rO X.K E wIsNot) := (op_isnot_bl.or op_notN).weak fun x y H Q ⟨m, wx, wy, S, rs, rx, ry, hp⟩ => by
  unfold wIsNot at hp
  split at hp
  · cases rx; cases ry
    exact .inl ⟨_, _, rfl, rfl, hp.ok rs _ (.bl _)⟩
  · exact hp.elim
  · rename_i h1 h2
    cases ry
    refine .inr ⟨rfl, ?_⟩
    cases rx with
    | obj => exact (h2 _ rfl).elim
    | _ => exact hp.ok rs _ (.bl _)
  · exact hp.elim
theorem ix_w : IxR X (rO X.K E wIx) := (ix_seq (X := X)).weak fun x y H Q ⟨m, wx, wy, S, rs, rx, ry, hp⟩ => by
  unfold wIx at hp
  split at hp
  · cases rx; cases ry
    split at hp
    · rename_i hl
      split at hp
      · rename_i c e
        exact .inr (.inr ⟨_, _, c, rfl, rfl, Nat.le_trans hl (by decide), e, hp.ok rs _ (.str _)⟩)
      · exact hp.elim
    · exact hp.elim
  · cases ry
    split at hp
    · rename_i ws e1
      split at hp
      · rename_i w e2
        obtain ⟨a, vs, rfl, hq, ra⟩ := rx.seq rs e1
        obtain ⟨v, e3, rv⟩ := ra.atI e2
        rcases hq with hq | hq
        · exact .inl ⟨a, vs, _, v, rfl, rfl, hq, e3, hp.ok rs _ rv⟩
        · exact .inr (.inl ⟨a, vs, _, v, rfl, rfl, hq, e3, hp.ok rs _ rv⟩)
      · exact hp.elim
    · exact hp.elim
  · exact hp.elim
theorem eqv_flat {K : PySem.W.Frag} {m : Own} {H : Hp} {x y : V} {wx wy : W} {d e : PyData} (rx : RepW K m H x wx) (ry : RepW K m H y wy) (fx : isFlat wx = true) (fy : isFlat wy = true) (hx : dat wx = some d) (hy : dat wy = some e) : PyData.eqv d e = L2.eqV x y ∧ flatV x = true := by
  cases rx <;> simp [isFlat] at fx <;> cases ry <;> simp [isFlat] at fy <;> simp only [dat, Option.some.injEq] at hx hy <;> subst hx hy <;> simp [PyData.eqv, L2.eqV, flatV]
theorem in_flat {K : PySem.W.Frag} {m : Own} {H : Hp} {x : V} {wx : W} {d : PyData} (rx : RepW K m H x wx) (fx : isFlat wx = true) (hx : dat wx = some d) : ∀ {vs : List V} {ws : List W} {ds : List PyData}, RepWs K m H vs ws → ws.all isFlat = true → datL ws = some ds →
    (ds.any fun z => PyData.eqv z d) = inV x vs ∧ vs.all flatV = true
  | _, _, _, .nil, _, h => by
    simp only [datL, Option.some.injEq] at h
    subst h
    exact ⟨rfl, rfl⟩
  | _, _, _, .cons hv hr, fl, h => by
    simp only [List.all_cons, Bool.and_eq_true] at fl
    simp only [datL] at h
    split at h
    · rename_i d' ds' e1 e2
      cases h
      obtain ⟨i1, i2⟩ := in_flat rx fx hx hr fl.2 e2
      obtain ⟨j1, j2⟩ := eqv_flat hv rx fl.1 fx e1 hx
      refine ⟨?_, ?_⟩
      · unfold inV at i1 ⊢
        rw [List.any_cons, List.any_cons, i1, j1]
      · rw [List.all_cons, j2, i2]
        rfl
    · cases h
theorem inW_ok {neg : Bool} {K : PySem.W.Frag} {m : Own} {H : Hp} {S : Store} {x y : V} {wx wy : W} {b : Bool} (rs : RepS K m H S) (rx : RepW K m H x wx) (ry : RepW K m H y wy) (h : inW wx wy S = some b) :
    (∃ i j, x = .str i ∧ y = .str j ∧ b = !(Builtin.Str.occurrences j i 0 j.length 1).isEmpty) ∨
    (∃ p xs, y = .ref p ∧ (SqL K H p xs ∨ SqT K H p xs) ∧ flatV x = true ∧ xs.all flatV = true ∧ b = inV x xs) ∨
    (∃ d ds, Dp K H x d ∧ Dp K H y (.list ds) ∧ SeqAt.shaped d = true ∧ SeqAt.shaped (.list ds) = true ∧ b = ds.any fun z => PyData.eqv z d) := by
  unfold inW at h
  split at h
  · cases rx; cases ry
    cases h
    exact .inl ⟨_, _, rfl, rfl, rfl⟩
  · split at h
    · rename_i d ds e1 e2
      split at h
      · rename_i hf
        rw [Bool.and_eq_true] at hf
        cases ry with
        | tup h1 h2 =>
          obtain ⟨i1, i2⟩ := in_flat rx hf.1 e1 h2 hf.2 e2
          have fx : flatV x = true := (eqv_flat rx rx hf.1 hf.1 e1 e1).2
          cases h
          exact .inr (.inl ⟨_, _, rfl, .inr h1.sq, fx, i2, i1⟩)
      · cases h
    · cases h
  · split at h
    · rename_i d ws e1 e2
      split at h
      · rename_i ds e3
        split at h
        · rename_i hs
          rw [Bool.and_eq_true] at hs
          obtain ⟨a, vs, rfl, ha, ra⟩ := ry.list rs e2
          cases h
          exact .inr (.inr ⟨d, ds, rx.dpS rs e1, .lst (.inl (.inl ha)) (ra.dp e3), hs.1, hs.2, rfl⟩)
        · cases h
      · cases h
    · cases h
theorem o_in (hu : X.A.units + 65 < cLine) : OpR X (compareOp .In) (rO X.K E wIn) := (op_in_str.or (op_in_seq.or (op_inD hu))).weak fun x y H Q ⟨m, wx, wy, S, rs, rx, ry, hp⟩ => by
  unfold wIn at hp
  split at hp
  · rename_i b e
    have q := hp.ok rs _ (.bl b)
    rcases inW_ok (neg := false) rs rx ry e with ⟨i, j, h1, h2, rfl⟩ | ⟨p, xs, h1, h2, h3, h4, rfl⟩ | ⟨d, ds, h1, h2, h3, h4, rfl⟩
    · exact .inl ⟨i, j, h1, h2, q⟩
    · exact .inr (.inl ⟨p, xs, h1, h2, h3, h4, q⟩)
    · exact .inr (.inr ⟨d, ds, h1, h2, h3, h4, q⟩)
  · exact hp.elim
theorem o_notin (hu : X.A.units + 65 < cLine) : OpR X (compareOp .NotIn) (rO X.K E wNotIn) := (op_notin_str.or (op_notIn_seq.or (op_notInD hu))).weak fun x y H Q ⟨m, wx, wy, S, rs, rx, ry, hp⟩ => by
  unfold wNotIn at hp
  split at hp
  · rename_i b e
    have q := hp.ok rs _ (.bl _)
    rcases inW_ok (neg := false) rs rx ry e with ⟨i, j, h1, h2, rfl⟩ | ⟨p, xs, h1, h2, h3, h4, rfl⟩ | ⟨d, ds, h1, h2, h3, h4, rfl⟩
    · exact .inl ⟨i, j, h1, h2, q⟩
    · exact .inr (.inl ⟨p, xs, h1, h2, h3, h4, q⟩)
    · exact .inr (.inr ⟨d, ds, h1, h2, h3, h4, q⟩)
  · exact hp.elim
end

/-! ### slices -/
abbrev OF := En → Store → Res (Option Int)
def oNo : OF := fun _ S => .ok none S
def oSome (f : EF) : OF := fun d S => (f d S).bind fun x S1 => match x with
  | .int i => .ok (some i) S1
  | _ => .bad
def rP (K : PySem.W.Frag) (E : Str → Hp → Prop) (f : OF) : TO := fun σ H Q => ∃ m d S, RepE K m H σ d ∧ RepS K m H S ∧ Post K E m H (f d S) (fun _ H' o => Q o H')
abbrev POv (X : Cx) (E : Str → Hp → Prop) (e : Option Expr) (f : OF) : Prop := PO X e (rP X.K E f)
def cutW (ws : List W) (lo hi : Option Int) : List W := (ws.drop (HT.sIx ws.length 0 lo)).take (HT.sIx ws.length ws.length hi - HT.sIx ws.length 0 lo)
def wSl (x : W) (lo hi : Option Int) (S : Store) : Res W := match x with
  | .tup ws => .ok (.tup (cutW ws lo hi)) S
  | .str z => if z.length ≤ 100000 then .ok (.str (cutS z lo hi)) S else .bad
  | x => match listOf x S with
    | some ws => .ok (.lst (cutW ws lo hi)) S
    | none => .bad
def eSl (f : EF) (lo hi : OF) : EF := fun d S => (f d S).bind fun x S1 => (lo d S1).bind fun l S2 => (hi d S2).bind fun h S3 => wSl x l h S3
section
variable {X : Cx} {E : Str → Hp → Prop} {e : Expr} {f : EF} {pos : Pos}
theorem _root_.L2.PO.weak {X : Cx} {e : Option Expr} {t t' : TO} (h : PO X e t) (i : ∀ σ H Q, t' σ H Q → t σ H Q) : PO X e t' := ⟨fun pins s σ H Q I q => h.run pins s σ H Q I (i σ H Q q)⟩
theorem ov_none : POv X E none oNo := po_none.weak fun σ H Q ⟨m, d, S, he, hs, hp⟩ => hp.ok hs
theorem ov_some (h : PEv X E e f) : POv X E (some e) (oSome f) := (po_some h).weak fun σ H Q ⟨m, d, S, he, hs, hp⟩ =>
  ⟨m, d, S, he, hs, Post.bind hp fun x S1 m1 H1 s1 r1 h1 v rv => by
    cases rv with
    | int i => exact ⟨i, rfl, h1.ok r1⟩
    | _ => exact h1.elim⟩
theorem cut_whole {ws : List W} {lo hi : Option Int} (h : HT.sIx ws.length 0 lo = 0 ∧ HT.sIx ws.length ws.length hi = ws.length) : cutW ws lo hi = ws := by
  unfold cutW
  rw [h.1, h.2]
  simp
theorem ev_sl {lo hi : Option Expr} {p2 : Pos} {fl fh : OF} (he : PEv X E e f) (hl : POv X E lo fl) (hh : POv X E hi fh) : PEv X E (.Subscript e (.Slice lo hi none p2) pos) (eSl f fl fh) := (pe_slice ((sl_tupF.or sl_str).or sl_list) he hl hh).weak fun σ H Q ⟨m, d, S, he, hs, hp⟩ => by
  refine ⟨m, d, S, he, hs, Post.bind hp fun x S1 m1 H1 s1 r1 h1 v rv => ⟨m1, d, S1, he.step s1.g, r1, Post.bind h1 fun l S2 m2 H2 s2 r2 h2 => ⟨m2, d, S2, he.step (s1.trans s2).g, r2, Post.bind h2 fun h S3 m3 H3 s3 r3 h3 => ?_⟩⟩⟩
  have rv3 := rv.step (s2.trans s3).g
  unfold wSl at h3
  split at h3
  · cases rv3 with
    | tup a1 a2 =>
      refine .inl (.inl ⟨_, _, rfl, a1.sq, fun z => ?_, fun _ p ob np hc hd => ?_⟩)
      · rw [a2.length] at z
        have q := h3.ok r3
        rw [cut_whole z] at q
        exact q _ (.tup a1 a2)
      · exact h3 m3 _ (r3.allocS np) (r3.alloc np) _ (newTup r3 np hc hd (a2.cut l h))
  · cases rv3
    split at h3
    · rename_i hl
      exact .inl (.inr ⟨_, rfl, Nat.le_trans hl (by decide), h3.ok r3 _ (.str _)⟩)
    · exact h3.elim
  · split at h3
    · rename_i ws e1
      obtain ⟨a, vs, rfl, ha, ra⟩ := rv3.list r3 e1
      exact .inr ⟨a, vs, rfl, .inl (.inl ha), fun p np => h3 m3 _ (r3.allocS np) (r3.alloc np) _ (newLst r3 np (ra.cut l h))⟩
    · exact h3.elim
end
end Iv
end
section
set_option maxHeartbeats 2000000
set_option maxRecDepth 100000
namespace Iv
open PySem L2

/-! ### targets -/
abbrev GF := W → En → Store → Res En
abbrev GsF := List W → En → Store → Res En
def gNm (i : Nat) : GF := fun w d S => .ok (d.set i (some w)) S
def gsNil : GsF := fun ws d S => match ws with
  | [] => .ok d S
  | _ => .bad
def gsCons (g : GF) (r : GsF) : GsF := fun ws d S => match ws with
  | w :: ws => (g w d S).bind fun d1 S1 => r ws d1 S1
  | [] => .bad
def gTu (n : Nat) (g : GsF) : GF := fun w d S => match w with
  | .tup ws => if ws.length = n then g ws d S else .bad
  | _ => .bad
def setAt (o i w : W) (S : Store) : Option Store := match o, i with
  | .mt k, .int n => match S[k]? with
    | some (.L ws) => match ixN ws.length n with
      | some j => some (S.set k (.L (ws.set j w)))
      | none => none
    | _ => none
  | _, _ => none
def gIx (fo fi : EF) : GF := fun w d S => (fo d S).bind fun o S1 => (fi d S1).bind fun i S2 => match setAt o i w S2 with
  | some S3 => .ok d S3
  | none => .bad
/-- the slots behind a target -/
def CG (K : PySem.W.Frag) (Q : L2.St → Hp → Prop) : Own → Hp → En → Prop := fun m H d => ∀ σ, RepE K m H σ d → Q σ H
def rG (K : PySem.W.Frag) (E : Str → Hp → Prop) (g : GF) : TG := fun v σ H Q => ∃ m w d S, RepE K m H σ d ∧ RepS K m H S ∧ RepW K m H v w ∧ Post K E m H (g w d S) (CG K Q)
def rGs (K : PySem.W.Frag) (E : Str → Hp → Prop) (g : GsF) : TGs := fun vs σ H Q => ∃ m ws d S, RepE K m H σ d ∧ RepS K m H S ∧ RepWs K m H vs ws ∧ Post K E m H (g ws d S) (CG K Q)
abbrev PGv (X : Cx) (E : Str → Hp → Prop) (e : Expr) (g : GF) : Prop := PG X e (rG X.K E g)
abbrev PGsv (X : Cx) (E : Str → Hp → Prop) (e : List Expr) (g : GsF) : Prop := PGs X e (rGs X.K E g)
theorem _root_.L2.PG.weak {X : Cx} {e : Expr} {t t' : TG} (h : PG X e t) (i : ∀ v σ H Q, t' v σ H Q → t v σ H Q) : PG X e t' := ⟨fun pins s σ H v u Q I r q => h.run pins s σ H v u Q I r (i _ _ _ _ q)⟩
theorem _root_.L2.PGs.weak {X : Cx} {e : List Expr} {t t' : TGs} (h : PGs X e t) (i : ∀ v σ H Q, t' v σ H Q → t v σ H Q) : PGs X e t' := ⟨fun pins s σ H v u Q I r q => h.run pins s σ H v u Q I r (i _ _ _ _ q)⟩
section
variable {X : Cx} {E : Str → Hp → Prop} {a b c e tg : Expr} {es : List Expr} {f g h : EF} {fa : AF} {pos : Pos} {gg : GF} {gs : GsF}
theorem gv_nm {i : Nat} {x : Str} (hN : X.N.Nodup) (hi : X.N[i]? = some x := by rfl) (hx : Loc X.env.scope x := by first | exact Or.inl rfl | exact Or.inr rfl) (hf : X.fn x = true ∨ X.env.scope.names.lookup x = some .local := by first | exact .inl rfl | exact .inr rfl) : PGv X E (.Name x pos) (gNm i) := (pg_name hN hi hx hf).weak fun v σ H Q ⟨m, w, d, S, he, hs, rw', hp⟩ =>
  hp.ok hs _ (he.set rw' i)
theorem gvs_nil : PGsv X E [] gsNil := pgs_nil.weak fun vs σ H Q ⟨m, ws, d, S, he, hs, rw', hp⟩ => by
  cases rw' with
  | nil => exact ⟨rfl, hp.ok hs _ he⟩
  | cons _ _ => exact hp.elim
theorem gvs_cons (h1 : PGv X E e gg) (h2 : PGsv X E es gs) (hs : (assignEach (e :: es) X.env).map (·.2) = assign e X.env :: (assignEach es X.env).map (·.2) := by rfl) : PGsv X E (e :: es) (gsCons gg gs) := (pgs_cons h1 h2 hs).weak fun vs σ H Q ⟨m, ws, d, S, he, hs, rw', hp⟩ => by
  cases rw' with
  | nil => exact hp.elim
  | cons r1 r2 =>
    exact ⟨_, _, rfl, m, _, d, S, he, hs, r1, Post.bind hp fun d1 S1 m1 H1 s1 q1 h1 σ1 he1 => ⟨m1, _, d1, S1, he1, q1, r2.step s1.g, h1⟩⟩
theorem gv_tu {k n : Nat} (hc : X.calm = true) (h : PGsv X E es gs) (hn : (assignEach es X.env).length = n := by rfl) (hst : (assignEach es X.env).findIdx? (·.1) = none := by rfl) : PGv X E (.Tuple es k pos) (gTu n gs) := (pg_tup hc h hn hst).weak fun v σ H Q ⟨m, w, d, S, he, hs, rw', hp⟩ => by
  unfold gTu at hp
  split at hp
  · split at hp
    · rename_i hl
      cases rw' with
      | tup h1 h2 => exact ⟨_, _, rfl, h1.sq, h2.length.trans hl, m, _, d, S, he, hs, h2, hp⟩
    · exact hp.elim
  · exact hp.elim
theorem gv_ix (ho : PEv X E a f) (hi : PEv X E b g) (ha : ∀ v, assign (.Subscript a b pos) X.env v = (do
      let ov ← holding [v] (eval a X.env)
      let iv ← holding [v, ov] (eval b X.env)
      standAt pos
      holding [v, ov, iv] (setItem ov iv v)
      release [v, ov, iv] []) := by intro _; rfl) : PGv X E (.Subscript a b pos) (gIx f g) := (pg_sub ho hi set_list ha).weak fun v σ H Q ⟨m, w, d, S, he, hs, rw', hp⟩ => by
  refine ⟨m, d, S, he, hs, Post.bind hp fun o S1 m1 H1 s1 r1 h1 vo ro => ⟨m1, d, S1, he.step s1.g, r1, Post.bind h1 fun i S2 m2 H2 s2 r2 h2 vi ri => ?_⟩⟩
  split at h2
  · rename_i S3 e
    unfold setAt at e
    split at e
    · rename_i k n
      split at e
      · rename_i ws e1
        split at e
        · rename_i j e2
          cases e
          cases ri
          have ro2 := ro.step s2.g
          cases ro2 with
          | @mt k a l em =>
            obtain ⟨a', l', em', hl, vs, hH, hr⟩ := r2.obj k _ e1
            rw [em] at em'
            cases em'
            refine ⟨a, vs, n, j, rfl, rfl, hH, by rw [hr.length]; exact e2, ?_⟩
            have rv : RepW X.K m2 H2 v w := rw'.step (s1.trans s2).g
            exact h2 m2 _ (r2.writeS em) (r2.write em e1 (hr.set rv j)) σ (he.step ((s1.trans s2).trans (r2.writeS em)).g)
        · cases e
      · cases e
    · cases e
  · exact h2.elim
end

/-! ### statements -/
def sNext : SF := fun d S => .ok (.nx d) S
def sSeq (a b : SF) : SF := fun d S => (a d S).bind fun o S1 => match o with
  | .nx d1 => b d1 S1
  | o => .ok o S1
def sIf (c : BF) (a b : SF) : SF := fun d S => (c d S).bind fun k S1 => if k = true then a d S1 else b d S1
def sRet (f : EF) : SF := fun d S => (f d S).bind fun w S1 => .ok (.rt w) S1
def sEx (f : EF) : SF := fun d S => (f d S).bind fun _ S1 => .ok (.nx d) S1
def sAsg (f : EF) (g : GF) : SF := fun d S => (f d S).bind fun w S1 => (g w d S1).bind fun d1 S2 => .ok (.nx d1) S2
def sPar (i j : Nat) (f g : EF) : SF := fun d S => (f d S).bind fun x S1 => (g d S1).bind fun y S2 => .ok (.nx ((d.set i (some x)).set j (some y))) S2
def sRaise (c : Str) : SF := fun _ S => .exc c S
def sBreak : SF := fun d S => .ok (.bk d) S
def sCont : SF := fun d S => .ok (.ct d) S
def whileF (c : BF) (b : SF) : Nat → En → Store → Res Out
  | 0, _, _ => .bad
  | n + 1, d, S => (c d S).bind fun k S1 => if k = true then (b d S1).bind fun o S2 => match o with
      | .nx d2 => whileF c b n d2 S2
      | .ct d2 => whileF c b n d2 S2
      | .bk d2 => .ok (.nx d2) S2
      | .rt w => .ok (.rt w) S2
    else .ok (.nx d) S1
def sWhile (n : Nat) (c : BF) (b : SF) : SF := fun d S => whileF c b n d S

section
variable {X : Cx} {E : Str → Hp → Prop} {a b c e tg : Expr} {es : List Expr} {f g h : EF} {fa : AF} {pos : Pos} {gg : GF} {gs : GsF} {st : Stmt} {sts : List Stmt} {s s' : SF} {fb : BF}
theorem sv_nil : PSsv X E [] sNext := pss_nil.weak fun D σ H ⟨m, d, S, he, hs, hp⟩ => hp.ok hs _ he
theorem sv_cons (h1 : PSv X E st s) (h2 : PSsv X E sts s') : PSsv X E (st :: sts) (sSeq s s') := (pss_cons h1 h2).weak fun D σ H ⟨m, d, S, he, hs, hp⟩ => by
  refine ⟨m, d, S, he, hs, Post.bind hp fun o S1 m1 H1 s1 r1 h1 => ?_⟩
  cases o with
  | nx d1 => exact fun σ1 he1 => ⟨m1, d1, S1, he1, r1, h1⟩
  | rt w => exact h1.ok r1
  | bk d1 => exact h1.ok r1
  | ct d1 => exact h1.ok r1
theorem sv_one (h1 : PSv X E st s) : PSsv X E [st] s := pss_one h1
theorem sv_if {as bs : List Stmt} (hc : PTv X E c fb) (ha : PSsv X E as s) (hb : PSsv X E bs s') : PSv X E (.If c as bs pos) (sIf fb s s') := (ps_if hc ha hb).weak fun D σ H ⟨m, d, S, he, hs, hp⟩ => by
  refine ⟨m, d, S, he, hs, Post.bind hp fun k S1 m1 H1 s1 r1 h1 => ?_⟩
  cases k with
  | true =>
    show rS X.K E s D σ H1
    exact ⟨m1, d, S1, he.step s1.g, r1, h1⟩
  | false =>
    show rS X.K E s' D σ H1
    exact ⟨m1, d, S1, he.step s1.g, r1, h1⟩
theorem sv_ret (he : PEv X E e f) : PSv X E (.Return (some e) pos) (sRet f) := (ps_ret he).weak fun D σ H ⟨m, d, S, he, hs, hp⟩ =>
  ⟨m, d, S, he, hs, Post.bind hp fun w S1 m1 H1 s1 r1 h1 => h1.ok r1⟩
theorem sv_ex (he : PEv X E e f) (hs : swapsWith e none pos.line X.env = pure false := by rfl) : PSv X E (.Expr e pos) (sEx f) := (ps_expr he hs).weak fun D σ H ⟨m, d, S, he, hs, hp⟩ =>
  ⟨m, d, S, he, hs, Post.bind hp fun w S1 m1 H1 s1 r1 h1 v rv => h1.ok r1 σ (he.step s1.g)⟩
theorem sv_pass : PSv X E (.Pass pos) sNext := ps_pass.weak fun D σ H ⟨m, d, S, he, hs, hp⟩ => hp.ok hs _ he
theorem sv_break : PSv X E (.Break pos) sBreak := ps_break.weak fun D σ H ⟨m, d, S, he, hs, hp⟩ => hp.ok hs _ he
theorem sv_cont : PSv X E (.Continue pos) sCont := ps_continue.weak fun D σ H ⟨m, d, S, he, hs, hp⟩ => hp.ok hs _ he
theorem rS_asg {K : PySem.W.Frag} {D : Ends} {σ : L2.St} {H : Hp} (q : rS K E (sAsg f gg) D σ H) : tAsg (rE K E f) (rG K E gg) D σ H := by
  obtain ⟨m, d, S, he, hs, hp⟩ := q
  exact ⟨m, d, S, he, hs, Post.bind hp fun w S1 m1 H1 s1 r1 h1 v rv => ⟨m1, w, d, S1, he.step s1.g, r1, rv, Post.bind h1 fun d1 S2 m2 H2 s2 r2 h2 => h2.ok r2⟩⟩
theorem sv_asg (he : PEv X E e f) (hg : PGv X E tg gg) (hs : swapsWithSole [tg] e pos.line X.env = pure false := by rfl) (hw : swappedStores [tg] e X.env = pure none := by rfl) (h1 : (assignEach [tg] X.env).map (·.2) = [assign tg X.env] := by rfl) : PSv X E (.Assign [tg] e pos) (sAsg f gg) := (ps_asg he hg hs hw h1).weak fun D σ H q => rS_asg q
theorem sv_set {i : Nat} {x : Str} {pos' : Pos} (hN : X.N.Nodup) (he : PEv X E e f) (hi : X.N[i]? = some x := by rfl) (hx : Loc X.env.scope x := by first | exact Or.inl rfl | exact Or.inr rfl) (hs : swapsWith e (some (.Name x pos')) pos.line X.env = pure false := by rfl) (hf : X.fn x = true ∨ X.env.scope.names.lookup x = some .local := by first | exact .inl rfl | exact .inr rfl) :
    PSv X E (.Assign [.Name x pos'] e pos) (sAsg f (gNm i)) := (ps_set (i := i) hN hi hx he hs hf).weak fun D σ H ⟨m, d, S, he, hs, hp⟩ =>
  ⟨m, d, S, he, hs, Post.bind hp fun w S1 m1 H1 s1 r1 h1 v rv => h1.ok r1 _ ((he.step s1.g).set rv i)⟩
theorem sv_never {c : Str} (hE : E = fun _ _ => False) : PSv X E st (sRaise c) := ps_never.weak fun D σ H ⟨m, d, S, he, hs, hp⟩ => by
  have q := hp.exc hs
  rw [hE] at q
  exact q
theorem sv_while {n : Nat} {body : List Stmt} (hp : PassesOwn (model X.prog X.w) X.A X.env X.xe) (hc : PTv X E c fb) (hb : PSsv X E body s) : PSv X E (.While c body [] pos) (sWhile n fb s) := (ps_while hp hc hb).weak fun D σ H ⟨m, d, S, he, hs, hp⟩ => by
  refine ⟨fun k σ H => ∃ m d S, RepE X.K m H σ d ∧ RepS X.K m H S ∧ Post X.K E m H (whileF fb s k d S) (CS X.K D), ⟨n, m, d, S, he, hs, hp⟩, ?_⟩
  rintro k σ H ⟨m, d, S, he, hs, hp⟩
  cases k with
  | zero => exact hp.elim
  | succ k =>
    refine ⟨m, d, S, he, hs, Post.bind hp fun t S1 m1 H1 s1 r1 h1 => ?_⟩
    cases t with
    | false =>
      show D.nx σ H1
      exact h1.ok r1 σ (he.step s1.g)
    | true =>
      refine iteT (B := D.nx σ H1) ⟨fun σ H => ∃ m d S, RepE X.K m H σ d ∧ RepS X.K m H S ∧ Post X.K E m H (whileF fb s k d S) (CS X.K D), fun σ' H' q => ⟨k, Nat.lt_succ_self k, q⟩, ?_⟩
      refine ⟨m1, d, S1, he.step s1.g, r1, Post.bind h1 fun o S2 m2 H2 s2 r2 h2 => ?_⟩
      cases o with
      | nx d2 => exact fun σ2 he2 => ⟨m2, d2, S2, he2, r2, h2⟩
      | ct d2 => exact fun σ2 he2 => ⟨m2, d2, S2, he2, r2, h2⟩
      | bk d2 => exact h2.ok r2
      | rt w => exact h2.ok r2
end

/-! ### what is walked -/
abbrev IF := En → Store → Res (List W)
structure ItOk (K : PySem.W.Frag) (m : Own) (H : Hp) (J : It) (ws : List W) : Prop where
  go : ∀ m' H', Grw m H m' H' → ∀ i, i < ws.length → J.go i H'
  stop : ∀ m' H', Grw m H m' H' → ∀ i, i = ws.length → J.stop i H'
  yld : ∀ m' H' S', Grw m H m' H' → RepS K m' H' S' → ∀ i x H'', i < ws.length → J.yld i H' x H'' → Step m' H' m' H'' ∧ RepS K m' H'' S' ∧ ∃ w, ws[i]? = some w ∧ RepW K m' H'' x w
def CI (K : PySem.W.Frag) (R : It → Hp → Prop) : Own → Hp → List W → Prop := fun m H ws => ∀ J, ItOk K m H J ws → R J H
def rI (K : PySem.W.Frag) (E : Str → Hp → Prop) (f : IF) : TI := fun σ H R => ∃ m d S, RepE K m H σ d ∧ RepS K m H S ∧ Post K E m H (f d S) (CI K R)
abbrev PIv (X : Cx) (E : Str → Hp → Prop) (tg e : Expr) (f : IF) : Prop := PI X tg e (rI X.K E f)
theorem _root_.L2.PI.weak {X : Cx} {tg e : Expr} {t t' : TI} (h : PI X tg e t) (i : ∀ σ H R, t' σ H R → t σ H R) : PI X tg e t' := ⟨fun pins s σ H R I q => h.run pins s σ H R I (i _ _ _ q)⟩
/-- what stands still -/
def stillOf : W → Option (List W)
  | .tup ws => some ws
  | .scr ns => some (ns.map W.int)
  | .lst ws => some ws
  | _ => none
def iSeq (f : EF) : IF := fun d S => (f d S).bind fun x S1 => match stillOf x with
  | some ws => .ok ws S1
  | none => .bad
def rangeW : Int → Nat → List W
  | _, 0 => []
  | lo, n + 1 => .int lo :: rangeW (lo + 1) n
def iRg (a : AF) : IF := fun d S => (a d S).bind fun ws S1 => match ws with
  | [.int n] => if -(2 ^ 62) ≤ n ∧ n < 2 ^ 62 then .ok (rangeW 0 n.toNat) S1 else .bad
  | _ => .bad
def iRg2 (a : AF) : IF := fun d S => (a d S).bind fun ws S1 => match ws with
  | [.int i, .int j] => if -(2 ^ 62) ≤ i ∧ i < 2 ^ 62 ∧ -(2 ^ 62) ≤ j ∧ j < 2 ^ 62 then .ok (rangeW i (j - i).toNat) S1 else .bad
  | _ => .bad
theorem rangeW_length : ∀ (n : Nat) (lo : Int), (rangeW lo n).length = n
  | 0, _ => rfl
  | n + 1, lo => by simp [rangeW, rangeW_length n]
theorem rangeW_get : ∀ (n : Nat) (lo : Int) (i : Nat), i < n → (rangeW lo n)[i]? = some (.int (lo + i))
  | 0, _, _, h => absurd h (Nat.not_lt_zero _)
  | n + 1, lo, 0, _ => by simp [rangeW]
  | n + 1, lo, i + 1, h => by
    simp only [rangeW, List.getElem?_cons_succ]
    rw [rangeW_get n (lo + 1) i (by omega)]
    congr 2
    omega
section
variable {K : PySem.W.Frag} {m : Own} {H : Hp} {a : Addr} {vs : List V} {ws : List W}
/-- a list that stands still -/
theorem itok_list (q : ∀ m' H', Grw m H m' H' → SqL K H' a vs) (r : RepWs K m H vs ws) : ItOk K m H (Itl K a) ws where
  go := fun m' H' g i hi => ⟨vs, vs[i]'(by rw [r.length]; exact hi), q m' H' g, List.getElem?_eq_getElem (by rw [r.length]; exact hi)⟩
  stop := fun m' H' g i hi => ⟨vs, q m' H' g, by rw [r.length]; exact Nat.le_of_eq hi.symm⟩
  yld := fun m' H' S' g rs i x H'' hi y => by
    obtain ⟨e, y⟩ := y
    subst e
    obtain ⟨w, e2, rw'⟩ := r.get' i x (y vs (q m' H'' g))
    exact ⟨Step.refl, rs, w, e2, rw'.step g⟩
theorem itok_tup (q : ∀ m' H', Grw m H m' H' → SqT K H' a vs) (r : RepWs K m H vs ws) : ItOk K m H (Itt K a) ws where
  go := fun m' H' g i hi => ⟨vs, vs[i]'(by rw [r.length]; exact hi), q m' H' g, List.getElem?_eq_getElem (by rw [r.length]; exact hi)⟩
  stop := fun m' H' g i hi => ⟨vs, q m' H' g, by rw [r.length]; exact Nat.le_of_eq hi.symm⟩
  yld := fun m' H' S' g rs i x H'' hi y => by
    obtain ⟨e, y⟩ := y
    subst e
    obtain ⟨w, e2, rw'⟩ := r.get' i x (y vs (q m' H'' g))
    exact ⟨Step.refl, rs, w, e2, rw'.step g⟩
theorem itok_range (lo : Int) (n : Nat) : ItOk K m H (Itr lo n) (rangeW lo n) where
  go := fun m' H' g i hi => by rw [rangeW_length] at hi; exact hi
  stop := fun m' H' g i hi => by rw [rangeW_length] at hi; exact Nat.le_of_eq hi.symm
  yld := fun m' H' S' g rs i x H'' hi y => by
    obtain ⟨e, y⟩ := y
    subst e y
    rw [rangeW_length] at hi
    exact ⟨Step.refl, rs, _, rangeW_get n lo i hi, .int _⟩
end
section
variable {X : Cx} {E : Str → Hp → Prop} {l tg a b : Expr} {f : EF} {fa : AF}
/-- a list or a tuple -/
theorem pi_seq {tl : TE} (hl : PE X l tl) : PI X tg l (fun σ H R => tl σ H fun x H1 => ∃ a, x = .ref a ∧ (((∃ xs, SqL X.K H1 a xs) ∧ R (Itl X.K a) H1) ∨ ((∃ xs, SqT X.K H1 a xs) ∧ R (Itt X.K a) H1))) := by
  refine ⟨fun pins s σ H R I h => ?_⟩
  refine thn (hl.run pins s σ H _ I h) fun v s1 ⟨x, H1, I1, r1, q1⟩ => ?_
  obtain ⟨a, e, q1⟩ := q1
  subst e
  cases r1
  rcases q1 with ⟨⟨xs, hq⟩, q⟩ | ⟨⟨xs, hq⟩, q⟩
  · obtain ⟨its, rv, p, hz⟩ := I1.list hq
    refine wpAny_pyIter_list p.isList ?_
    refine ⟨s1.heap.objs.size, [s1.heap.objs.size], _, _, H1, rfl, I1.kept (t' := s1.toks) fun b o e => Heap.get?_push_of_some _ e, turn_list a _, ⟨_, Heap.get?_push_size _ rfl, rfl, rfl⟩, fun b hb => ?_, q⟩
    have e : b = s1.heap.objs.size := by simpa using hb
    subst e
    exact I1.fpOk (Nat.le_refl _) (I1.hok.fresh (Nat.le_refl _))
  · obtain ⟨its, rv, p, hz⟩ := I1.tuple hq
    refine wpAny_pyIter_tuple (show s1.heap.IsTuple a its.toArray from p) ?_
    refine ⟨s1.heap.objs.size, [s1.heap.objs.size], _, _, H1, rfl, I1.kept (t' := s1.toks) fun b o e => Heap.get?_push_of_some _ e, turn_tuple a _, ⟨_, Heap.get?_push_size _ rfl, rfl, rfl⟩, fun b hb => ?_, q⟩
    have e : b = s1.heap.objs.size := by simpa using hb
    subst e
    exact I1.fpOk (Nat.le_refl _) (I1.hok.fresh (Nat.le_refl _))
theorem iv_seq (hl : PEv X E l f) : PIv X E tg l (iSeq f) := (pi_seq hl).weak fun σ H R ⟨m, d, S, he, hs, hp⟩ => by
  refine ⟨m, d, S, he, hs, Post.bind hp fun x S1 m1 H1 s1 r1 h1 v rv => ?_⟩
  split at h1
  · rename_i ws e
    cases rv with
    | tup h2 h3 =>
      simp only [stillOf, Option.some.injEq] at e
      subst e
      exact ⟨_, rfl, .inr ⟨⟨_, h2.sq⟩, h1.ok r1 _ (itok_tup (fun m' H' g => (h2.step g).sq) h3)⟩⟩
    | lst h2 h3 =>
      simp only [stillOf, Option.some.injEq] at e
      subst e
      exact ⟨_, rfl, .inl ⟨⟨_, h2.sq⟩, h1.ok r1 _ (itok_list (fun m' H' g => (h2.step g).sq) h3)⟩⟩
    | @scr a ns h2 =>
      simp only [stillOf, Option.some.injEq] at e
      subst e
      exact ⟨_, rfl, .inl ⟨⟨_, h2.sq⟩, h1.ok r1 _ (itok_list (fun m' H' g => (h2.step g).sq) (repInts ns))⟩⟩
    | _ => simp [stillOf] at e
  · exact h1.elim
theorem iv_rg {p pos : Pos} (hg : Gl X "range") (hm : X.mg "range" = none) (ha : PAv X E [a] fa) (hs : starEach [a] X.env = [(false, eval a X.env)] := by rfl) : PIv X E tg (.Call (.Name "range" p) [a] [] pos) (iRg fa) := (pi_range1 hg hm ha hs).weak fun σ H R ⟨m, d, S, he, hs, hp⟩ => by
  refine ⟨m, d, S, he, hs, Post.bind hp fun ws S1 m1 H1 s1 r1 h1 vs rv => ?_⟩
  split at h1
  · split at h1
    · rename_i hb
      cases rv with
      | cons h2 h3 =>
        cases h2
        cases h3
        exact ⟨_, rfl, hb.1, hb.2, h1.ok r1 _ (itok_range _ _)⟩
    · exact h1.elim
  · exact h1.elim
theorem iv_rg2 {p pos : Pos} (hg : Gl X "range") (hm : X.mg "range" = none) (ha : PAv X E [a, b] fa) (hs : starEach [a, b] X.env = [(false, eval a X.env), (false, eval b X.env)] := by rfl) (hs2 : starEach [b] X.env = [(false, eval b X.env)] := by rfl) : PIv X E tg (.Call (.Name "range" p) [a, b] [] pos) (iRg2 fa) := (pi_range2 hg hm ha hs hs2).weak fun σ H R ⟨m, d, S, he, hs, hp⟩ => by
  refine ⟨m, d, S, he, hs, Post.bind hp fun ws S1 m1 H1 s1 r1 h1 vs rv => ?_⟩
  split at h1
  · split at h1
    · rename_i hb
      cases rv with
      | cons h2 h3 =>
        cases h2
        cases h3 with
        | cons h4 h5 =>
          cases h4
          cases h5
          exact ⟨_, _, rfl, hb, h1.ok r1 _ (itok_range _ _)⟩
    · exact h1.elim
  · exact h1.elim
end

/-! ### for -/
def forF (g : GF) (b : SF) : List W → En → Store → Res Out
  | [], d, S => .ok (.nx d) S
  | x :: xs, d, S => (g x d S).bind fun d1 S1 => (b d1 S1).bind fun o S2 => match o with
    | .nx d2 => forF g b xs d2 S2
    | .ct d2 => forF g b xs d2 S2
    | .bk d2 => .ok (.nx d2) S2
    | .rt w => .ok (.rt w) S2
def sFor (i : IF) (g : GF) (b : SF) : SF := fun d S => (i d S).bind fun ws S1 => forF g b ws d S1
section
variable {X : Cx} {E : Str → Hp → Prop} {tg iter : Expr} {body : List Stmt} {fi : IF} {g : GF} {s : SF} {pos : Pos}
theorem sv_for (hp : PassesOwn (model X.prog X.w) X.A X.env X.xe) (hc : X.calm = true) (hi : PIv X E tg iter fi) (hg : PGv X E tg g) (hb : PSsv X E body s) (hst : ∀ x, foldedSetIterable iter X.env x = pure x := by intro _; rfl) :
    PSv X E (.For tg iter body [] pos) (sFor fi g s) := (ps_for hp hc hi hg hb hst).weak fun D σ H ⟨m, d, S, he, hs, hp⟩ => by
  refine ⟨m, d, S, he, hs, Post.bind hp fun ws S1 m1 H1 s1 r1 h1 J J1 => ?_⟩
  refine ⟨fun i k σ H => ∃ m d S, RepE X.K m H σ d ∧ RepS X.K m H S ∧ Grw m1 H1 m H ∧ i ≤ ws.length ∧ k = ws.length - i ∧ Post X.K E m H (forF g s (ws.drop i) d S) (CS X.K D),
    ⟨ws.length, m1, d, S1, he.step s1.g, r1, Grw.refl, Nat.zero_le _, rfl, h1⟩, ?_⟩
  rintro i k σ H2 ⟨m2, d2, S2, he2, r2, g2, hi, rfl, h2⟩
  by_cases hlt : i < ws.length
  · refine .inr ⟨J1.go m2 H2 g2 i hlt, fun σ H => ∃ m d S, RepE X.K m H σ d ∧ RepS X.K m H S ∧ Grw m1 H1 m H ∧ i + 1 ≤ ws.length ∧ Post X.K E m H (forF g s (ws.drop (i + 1)) d S) (CS X.K D),
      fun σ' H' ⟨m, d, S, a1, a2, a3, a4, a5⟩ => ⟨ws.length - (i + 1), by omega, m, d, S, a1, a2, a3, a4, rfl, a5⟩, fun x H3 y => ?_⟩
    obtain ⟨s3, r3, w, ew, rw'⟩ := J1.yld m2 H2 S2 g2 r2 i x H3 hlt y
    have ed : ws.drop i = w :: ws.drop (i + 1) := by
      rw [List.drop_eq_getElem_cons hlt]
      congr 1
      have := List.getElem?_eq_getElem hlt
      rw [ew] at this
      exact (Option.some.inj this).symm
    rw [ed] at h2
    have h3 := h2.step s3
    refine ⟨m2, w, d2, S2, he2.step s3.g, r3, rw', Post.bind h3 fun d4 S4 m4 H4 s4 r4 h4 σ4 he4 => ?_⟩
    refine ⟨m4, d4, S4, he4, r4, Post.bind h4 fun o S5 m5 H5 s5 r5 h5 => ?_⟩
    have gg : Grw m1 H1 m5 H5 := g2.trans (s3.trans (s4.trans s5)).g
    cases o with
    | nx d6 => exact fun σ6 he6 => ⟨m5, d6, S5, he6, r5, gg, hlt, h5⟩
    | ct d6 => exact fun σ6 he6 => ⟨m5, d6, S5, he6, r5, gg, hlt, h5⟩
    | bk d6 => exact h5.ok r5
    | rt w => exact h5.ok r5
  · have e : i = ws.length := by omega
    subst e
    refine .inl ⟨J1.stop m2 H2 g2 _ rfl, ?_⟩
    rw [List.drop_length] at h2
    exact h2.ok r2 σ he2
end
end Iv
end
section
set_option maxHeartbeats 2000000
set_option maxRecDepth 100000
namespace Iv
open PySem L2

abbrev NoE : Str → Hp → Prop := fun _ _ => False

/-! ### a list unpacked, two targets at once -/
def gUl (n : Nat) (g : GsF) : GF := fun w d S => match listOf w S with
  | some ws => if ws.length = n then g ws d S else .bad
  | none => .bad
def sPr (i j : Nat) (a : AF) : SF := fun d S => (a d S).bind fun ws S1 => match ws with
  | [x, y] => .ok (.nx ((d.set i (some x)).set j (some y))) S1
  | _ => .bad
def sPr3 (i j l : Nat) (a : AF) : SF := fun d S => (a d S).bind fun ws S1 => match ws with
  | [x, y, z] => .ok (.nx (((d.set i (some x)).set j (some y)).set l (some z))) S1
  | _ => .bad
section
variable {X : Cx} {E : Str → Hp → Prop} {a b c e tg : Expr} {es : List Expr} {f g h : EF} {fa : AF} {pos : Pos} {gg : GF} {gs : GsF}
theorem gv_ul {k n : Nat} (hc : X.calm = true) (h : PGsv X E es gs) (hn : (assignEach es X.env).length = n := by rfl) (hst : (assignEach es X.env).findIdx? (·.1) = none := by rfl) : PGv X E (.Tuple es k pos) (gUl n gs) := (pg_unl hc h hn hst).weak fun v σ H Q ⟨m, w, d, S, he, hs, rw', hp⟩ => by
  unfold gUl at hp
  split at hp
  · rename_i ws e
    split at hp
    · rename_i hl
      obtain ⟨a, vs, rfl, ha, ra⟩ := rw'.list hs e
      exact ⟨a, vs, rfl, .inl (.inl ha), ra.length.trans hl, m, ws, d, S, he, hs, ra, hp⟩
    · exact hp.elim
  · exact hp.elim
theorem sv_par {i j : Nat} {x y : Str} {px py pt : Pos} {kt k2 pt2} (hc : X.calm = true) (hN : X.N.Nodup) (ha : PAv X E [a, b] fa) (hi : X.N[i]? = some x := by rfl) (hj : X.N[j]? = some y := by rfl) (hij : i ≠ j := by decide)
    (hx : X.env.scope.names.lookup x = some .local := by rfl) (hy : X.env.scope.names.lookup y = some .local := by rfl)
    (hw : swappedStores [.Tuple [.Name x px, .Name y py] kt pt] (.Tuple [a, b] k2 pt2) X.env = pure (some [x, y]) := by rfl)
    (hs : swapsWithSole [.Tuple [.Name x px, .Name y py] kt pt] (.Tuple [a, b] k2 pt2) pos.line X.env = pure false := by rfl) :
    PSv X E (.Assign [.Tuple [.Name x px, .Name y py] kt pt] (.Tuple [a, b] k2 pt2) pos) (sPr i j fa) := (ps_par hc hN hi hj hij hx hy ha hw hs).weak fun D σ H ⟨m, d, S, he, hs, hp⟩ =>
  ⟨m, d, S, he, hs, Post.bind hp fun ws S1 m1 H1 s1 r1 h1 vs rv => by
    split at h1
    · cases rv with
      | cons q1 q2 => cases q2 with
        | cons q3 q4 =>
          cases q4
          exact ⟨_, _, rfl, h1.ok r1 _ (((he.step s1.g).set q1 i).set q3 j)⟩
    · exact h1.elim⟩
theorem sv_par3 {i j l : Nat} {x y z : Str} {px py pz pt : Pos} {kt k2 pt2} (hc : X.calm = true) (hN : X.N.Nodup) (ha : PAv X E [a, b, c] fa) (hi : X.N[i]? = some x := by rfl) (hj : X.N[j]? = some y := by rfl) (hl : X.N[l]? = some z := by rfl) (hij : i ≠ j := by decide) (hil : i ≠ l := by decide) (hjl : j ≠ l := by decide)
    (hx : X.env.scope.names.lookup x = some .local := by rfl) (hy : X.env.scope.names.lookup y = some .local := by rfl) (hz : X.env.scope.names.lookup z = some .local := by rfl)
    (hw : swappedStores [.Tuple [.Name x px, .Name y py, .Name z pz] kt pt] (.Tuple [a, b, c] k2 pt2) X.env = pure (some [x, y, z]) := by rfl)
    (hs : swapsWithSole [.Tuple [.Name x px, .Name y py, .Name z pz] kt pt] (.Tuple [a, b, c] k2 pt2) pos.line X.env = pure false := by rfl) :
    PSv X E (.Assign [.Tuple [.Name x px, .Name y py, .Name z pz] kt pt] (.Tuple [a, b, c] k2 pt2) pos) (sPr3 i j l fa) := (ps_par3 hc hN hi hj hl hij hil hjl hx hy hz ha hw hs).weak fun D σ H ⟨m, d, S, he, hs, hp⟩ =>
  ⟨m, d, S, he, hs, Post.bind hp fun ws S1 m1 H1 s1 r1 h1 vs rv => by
    split at h1
    · cases rv with
      | cons q1 q2 => cases q2 with
        | cons q3 q4 => cases q4 with
          | cons q5 q6 =>
            cases q6
            exact ⟨_, _, _, rfl, h1.ok r1 _ ((((he.step s1.g).set q1 i).set q3 j).set q5 l)⟩
    · exact h1.elim⟩
end

/-! ### comprehensions -/
def wipeE (d : En) : List Nat → En
  | [] => d
  | v :: vs => (wipeE d vs).set v none
theorem set_none_wipe (σ : L2.St) (i : Nat) (x : Option V) : ∀ vs : List Nat, (wipe (σ.set i x) vs).set i none = (wipe σ vs).set i none
  | [] => by simp [wipe]
  | v :: vs => by
    simp only [wipe]
    by_cases h : v = i
    · subst h
      rw [List.set_set, List.set_set, set_none_wipe σ v x vs]
    · rw [List.set_comm _ _ h, set_none_wipe σ i x vs, List.set_comm _ _ (Ne.symm h)]
theorem wipe_set {σ : L2.St} {i : Nat} {x : Option V} : ∀ {vs : List Nat}, i ∈ vs → wipe (σ.set i x) vs = wipe σ vs
  | [], h => by simp at h
  | v :: vs, h => by
    simp only [wipe]
    by_cases e : i = v
    · subst e
      exact set_none_wipe σ i x vs
    · rw [wipe_set (vs := vs) (by
        rcases List.mem_cons.mp h with h | h
        · exact absurd h e
        · exact h)]
section
variable {K : PySem.W.Frag} {m m' : Own} {H H' : Hp} {S S' : Store} {σ : L2.St} {d : En}
theorem RepE.unset (h : RepE K m H σ d) (i : Nat) : RepE K m H (σ.set i none) (d.set i none) := ⟨by rw [List.length_set, List.length_set, h.len], fun j w' e => by
  by_cases hj : i = j
  · subst hj
    by_cases hi : i < d.length
    · rw [List.getElem?_set_self hi] at e
      cases e
    · rw [List.getElem?_eq_none (by simpa using hi)] at e
      cases e
  · rw [List.getElem?_set_ne hj] at e
    obtain ⟨v', e1, r'⟩ := h.get j w' e
    exact ⟨v', by rw [List.getElem?_set_ne hj]; exact e1, r'⟩⟩
theorem RepE.wipe (h : RepE K m H σ d) : ∀ vs : List Nat, RepE K m H (L2.wipe σ vs) (wipeE d vs)
  | [] => h
  | v :: vs => (h.wipe vs).unset v
end
/-- a target whose names are a block's own -/
def CGw (K : PySem.W.Frag) (σ0 : L2.St) (vs : List Nat) (Q : L2.St → Hp → Prop) : Own → Hp → En → Prop := fun m H d => ∀ σ, RepE K m H σ d → wipe σ vs = wipe σ0 vs → Q σ H
def rGw (K : PySem.W.Frag) (vs : List Nat) (g : GF) : TG := fun v σ H Q => ∃ m w d S, RepE K m H σ d ∧ RepS K m H S ∧ RepW K m H v w ∧ Post K NoE m H (g w d S) (CGw K σ vs Q)
def rGws (K : PySem.W.Frag) (vs : List Nat) (g : GsF) : TGs := fun us σ H Q => ∃ m ws d S, RepE K m H σ d ∧ RepS K m H S ∧ RepWs K m H us ws ∧ Post K NoE m H (g ws d S) (CGw K σ vs Q)
abbrev PGw (X : Cx) (vs : List Nat) (e : Expr) (g : GF) : Prop := PG X e (rGw X.K vs g)
abbrev PGsw (X : Cx) (vs : List Nat) (e : List Expr) (g : GsF) : Prop := PGs X e (rGws X.K vs g)
section
variable {X : Cx} {vs : List Nat} {e : Expr} {es : List Expr} {gg : GF} {gs : GsF} {pos : Pos}
theorem gw_nm {i : Nat} {x : Str} (hN : X.N.Nodup) (hi : X.N[i]? = some x := by rfl) (hx : Loc X.env.scope x := by first | exact Or.inl rfl | exact Or.inr rfl) (hf : X.fn x = true ∨ X.env.scope.names.lookup x = some .local := by first | exact .inl rfl | exact .inr rfl) (hv : i ∈ vs := by decide) : PGw X vs (.Name x pos) (gNm i) := (pg_name hN hi hx hf).weak fun v σ H Q ⟨m, w, d, S, he, hs, rw', hp⟩ =>
  hp.ok hs _ (he.set rw' i) (wipe_set hv)
theorem gws_nil : PGsw X vs [] gsNil := pgs_nil.weak fun us σ H Q ⟨m, ws, d, S, he, hs, rw', hp⟩ => by
  cases rw' with
  | nil => exact ⟨rfl, hp.ok hs _ he rfl⟩
  | cons _ _ => exact hp.elim
theorem gws_cons (h1 : PGw X vs e gg) (h2 : PGsw X vs es gs) (hs : (assignEach (e :: es) X.env).map (·.2) = assign e X.env :: (assignEach es X.env).map (·.2) := by rfl) : PGsw X vs (e :: es) (gsCons gg gs) := (pgs_cons h1 h2 hs).weak fun us σ H Q ⟨m, ws, d, S, he, hs, rw', hp⟩ => by
  cases rw' with
  | nil => exact hp.elim
  | cons r1 r2 =>
    exact ⟨_, _, rfl, m, _, d, S, he, hs, r1, Post.bind hp fun d1 S1 m1 H1 s1 q1 h1 σ1 he1 w1 => ⟨m1, _, d1, S1, he1, q1, r2.step s1.g, by
      unfold CGw at h1 ⊢
      rw [w1]
      exact h1⟩⟩
theorem gw_tu {k n : Nat} (hc : X.calm = true) (h : PGsw X vs es gs) (hn : (assignEach es X.env).length = n := by rfl) (hst : (assignEach es X.env).findIdx? (·.1) = none := by rfl) : PGw X vs (.Tuple es k pos) (gTu n gs) := (pg_tup hc h hn hst).weak fun v σ H Q ⟨m, w, d, S, he, hs, rw', hp⟩ => by
  unfold gTu at hp
  split at hp
  · split at hp
    · rename_i hl
      cases rw' with
      | tup h1 h2 => exact ⟨_, _, rfl, h1.sq, h2.length.trans hl, m, _, d, S, he, hs, h2, hp⟩
    · exact hp.elim
  · exact hp.elim
end
/-! the tests of a comprehension -/
abbrev PTsv (X : Cx) (E : Str → Hp → Prop) (e : List Expr) (f : BF) : Prop := PTs X e (rB X.K E f)
def bYes : BF := fun _ S => .ok true S
theorem _root_.L2.PTs.weak {X : Cx} {e : List Expr} {t t' : TT} (h : PTs X e t) (i : ∀ σ H Q, t' σ H Q → t σ H Q) : PTs X e t' := ⟨fun pins s σ H Q I q => h.run pins s σ H Q I (i σ H Q q)⟩
section
variable {X : Cx} {E : Str → Hp → Prop} {c : Expr} {fb : BF}
theorem tsv_nil : PTsv X E [] bYes := pts_nil.weak fun σ H Q ⟨m, d, S, he, hs, hp⟩ => hp.ok hs
theorem tsv_one (h : PTv X E c fb) : PTsv X E [c] fb := pts_one h
end

def lcF (g : GF) (t : BF) (e : EF) (d0 : En) : List W → Store → Res (List W)
  | [], S => .ok [] S
  | x :: xs, S => (g x d0 S).bind fun d1 S1 => (t d1 S1).bind fun k S2 => if k = true then (e d1 S2).bind fun y S3 => (lcF g t e d0 xs S3).bind fun ys S4 => .ok (y :: ys) S4 else lcF g t e d0 xs S2
def eLc (vs : List Nat) (i : IF) (g : GF) (t : BF) (e : EF) : EF := fun d S => (i d S).bind fun ws S1 => match lcF g t e (wipeE d vs) ws S1 with
  | .ok ys S2 => if ws.length ≤ 100000 then .ok (.lst ys) S2 else .bad
  | _ => .bad

theorem bind_ok {α β : Type} {r : Res α} {k : α → Store → Res β} {b : β} {S : Store} (h : r.bind k = .ok b S) : ∃ a S1, r = .ok a S1 ∧ k a S1 = .ok b S := by
  cases r with
  | ok a S1 => exact ⟨a, S1, rfl, h⟩
  | exc c S1 => cases h
  | bad => cases h
section
variable {K : PySem.W.Frag} {E : Str → Hp → Prop} {m m' : Own} {H H' : Hp} {S S' : Store} {α : Type}
theorem post_ok {r : Res α} {a : α} {C : Own → Hp → α → Prop} (e : r = .ok a S) (h : ∀ m' H', Step m H m' H' → RepS K m' H' S → C m' H' a) : Post K E m H r C := by
  subst e
  exact h
/-- a new list is hidden -/
def Own.hide (m : Own) (D : Addr) : Own := ⟨m.ms, D :: m.hid⟩
theorem own_hide {D q : Addr} (h : owned (m.hide D) q) : owned m q ∨ q = D := by
  rcases h with h | h
  · rcases List.mem_cons.mp h with h | h
    · exact .inr h
    · exact .inl (.inl h)
  · exact .inl (.inr h)
theorem Grw.hide {D : Addr} {o : HO} (nD : H D = none) : Grw m H (m.hide D) (upd H D o) where
  pre := fun k a l h => ⟨l, h⟩
  new := fun q h n => by
    rcases own_hide h with h | h
    · exact absurd h n
    · rw [h]; exact nD
  keep := fun a u e _ => by
    rw [upd_ne (ne_of_none e nD)]
    exact e
theorem RepS.hide (h : RepS K m H S) {D : Addr} {o : HO} (nD : H D = none) : RepS K (m.hide D) (upd H D o) S where
  len := h.len
  obj := fun k u e => by
    obtain ⟨a, l, e1, q⟩ := h.obj k u e
    refine ⟨a, l, e1, q.step (Grw.hide nD) fun b hb => ?_⟩
    obtain ⟨u, hu⟩ := q.tracked b hb
    exact upd_ne (ne_of_none hu nD)
  disj := h.disj
  trk := fun a ha => by
    rcases List.mem_cons.mp ha with e | ha
    · subst e
      exact ⟨o, upd_same⟩
    · obtain ⟨u, e⟩ := h.trk a ha
      exact ⟨u, by rw [upd_ne (ne_of_none e nD)]; exact e⟩
  dish := fun k l hk a ha hh => by
    rcases List.mem_cons.mp hh with e | hh
    · subst e
      exact h.fresh nD (.inr ⟨l, List.mem_of_getElem? hk, ha⟩)
    · exact h.dish k l hk a ha hh
/-- the hidden list is written -/
theorem RepS.hidw (h : RepS K m H S) {D : Addr} {o : HO} (hD : D ∈ m.hid) : RepS K m (upd H D o) S where
  len := h.len
  obj := fun k u e => by
    obtain ⟨a, l, e1, q⟩ := h.obj k u e
    refine ⟨a, l, e1, q.step (Grw.write (.inl hD)) fun b hb => upd_ne fun z => h.dish k _ e1 b hb (by rw [z]; exact hD)⟩
  disj := h.disj
  trk := fun a ha => by
    by_cases e : a = D
    · subst e
      exact ⟨o, upd_same⟩
    · obtain ⟨u, q⟩ := h.trk a ha
      exact ⟨u, by rw [upd_ne e]; exact q⟩
  dish := h.dish
mutual
theorem RepW.less (hms : m'.ms = m.ms) (ho : ∀ a, owned m' a → owned m a) : ∀ {v : V} {w : W}, RepW K m H v w → RepW K m' H v w
  | _, _, .non => .non
  | _, _, .bl b => .bl b
  | _, _, .int i => .int i
  | _, _, .str x => .str x
  | _, _, .tup h r => .tup (by
    rcases h with h | h
    · exact .inl ⟨h.1, fun z => h.2 (ho _ z)⟩
    · exact .inr h) (RepWs.less hms ho r)
  | _, _, .lst h r => .lst ⟨h.1, fun z => h.2 (ho _ z)⟩ (RepWs.less hms ho r)
  | _, _, .scr h => .scr (by
    rcases h with h | h
    · exact .inl ⟨h.1, fun z => h.2 (ho _ z)⟩
    · exact .inr h)
  | _, _, .mt h => .mt (by rw [hms]; exact h)
  | _, _, .obj v => .obj v
theorem RepWs.less (hms : m'.ms = m.ms) (ho : ∀ a, owned m' a → owned m a) : ∀ {vs : List V} {ws : List W}, RepWs K m H vs ws → RepWs K m' H vs ws
  | _, _, .nil => .nil
  | _, _, .cons h r => .cons (RepW.less hms ho h) (RepWs.less hms ho r)
end
theorem RepKs.less (hms : m'.ms = m.ms) (ho : ∀ a, owned m' a → owned m a) : ∀ {vs : List (Str × V)} {ws : List (Str × W)}, RepKs K m H vs ws → RepKs K m' H vs ws
  | _, _, .nil => .nil
  | _, _, .cons h r => .cons (h.less hms ho) (r.less hms ho)
theorem RepO.less (hms : m'.ms = m.ms) (ho : ∀ a, owned m' a → owned m a) {a : Addr} {l : List Addr} {o : MO} (h : RepO K m H a l o) : RepO K m' H a l o := by
  cases o with
  | L ws =>
    obtain ⟨h1, vs, h2, h3⟩ := h
    exact ⟨h1, vs, h2, h3.less hms ho⟩
  | D ws =>
    obtain ⟨h1, vs, h2, h3⟩ := h
    exact ⟨h1, vs, h2, h3.less hms ho⟩
  | I ws =>
    obtain ⟨C, dx, vs, h1, h2, h3, h4, h5⟩ := h
    exact ⟨C, dx, vs, h1, h2, h3, h4, h5.less hms ho⟩
  | E c => exact h
/-- no longer hidden -/
theorem RepS.show' (h : RepS K m H S) {hid : List Addr} (hh : ∀ a, a ∈ hid → a ∈ m.hid) : RepS K ⟨m.ms, hid⟩ H S where
  len := h.len
  obj := fun k u e => by
    obtain ⟨a, l, e1, q⟩ := h.obj k u e
    exact ⟨a, l, e1, q.less (m := m) (m' := ⟨m.ms, hid⟩) rfl fun a ha => ha.elim (fun z => .inl (hh a z)) .inr⟩
  disj := h.disj
  trk := fun a ha => h.trk a (hh a ha)
  dish := fun k l hk a ha z => h.dish k l hk a ha (hh a z)
end
section
variable {X : Cx} {E : Str → Hp → Prop} {elt tg iter : Expr} {ifs : List Expr} {scope : Scope} {own : List (Str × Nat)} {pos : Pos} {fi : IF} {g : GF} {t : BF} {e : EF}
theorem CB.ff {A B : Hp → Prop} {m : Own} {H : Hp} (h : B H) : CB (fun b H => if b = true then A H else B H) m H false := show (if false = true then A H else B H) from iteF h
theorem CB.tt {A B : Hp → Prop} {m : Own} {H : Hp} (h : A H) : CB (fun b H => if b = true then A H else B H) m H true := show (if true = true then A H else B H) from iteT h
/-- where a comprehension's turn stands -/
structure LcAt (K : PySem.W.Frag) (m1 : Own) (H1 : Hp) (D : Addr) (m' : Own) (H' : Hp) (S' : Store) (accW : List W) : Prop where
  grw : Grw (m1.hide D) (upd H1 D (.lst [])) m' H'
  hid : m'.hid = D :: m1.hid
  still : ∀ a, a ∈ m1.hid → H' a = H1 a
  rs : RepS K m' H' S'
  acc : ∃ acc, H' D = some (.lst acc) ∧ RepWs K m' H' acc accW
theorem LcAt.start {K : PySem.W.Frag} {m1 : Own} {H1 : Hp} {D : Addr} {S1 : Store} (r1 : RepS K m1 H1 S1) (nD : H1 D = none) : LcAt K m1 H1 D (m1.hide D) (upd H1 D (.lst [])) S1 [] where
  grw := Grw.refl
  hid := rfl
  still := fun a ha => by
    obtain ⟨u, e⟩ := r1.trk a ha
    exact upd_ne (ne_of_none e nD)
  rs := r1.hide nD
  acc := ⟨[], upd_same, .nil⟩
theorem LcAt.step {K : PySem.W.Frag} {m1 : Own} {H1 : Hp} {D : Addr} {m' m2 : Own} {H' H2 : Hp} {S' S2 : Store} {accW : List W} (h : LcAt K m1 H1 D m' H' S' accW) (s : Step m' H' m2 H2) (r2 : RepS K m2 H2 S2) : LcAt K m1 H1 D m2 H2 S2 accW where
  grw := h.grw.trans s.g
  hid := s.hid.trans h.hid
  still := fun a ha => (s.still a (by rw [h.hid]; exact List.mem_cons_of_mem _ ha)).trans (h.still a ha)
  rs := r2
  acc := by
    obtain ⟨acc, e, r⟩ := h.acc
    exact ⟨acc, (s.still D (by rw [h.hid]; exact List.mem_cons_self)).trans e, r.step s.g⟩
theorem LcAt.put {K : PySem.W.Frag} {m1 : Own} {H1 : Hp} {D : Addr} {m' : Own} {H' : Hp} {S1 S' : Store} {accW : List W} {acc : List V} {v : V} {w : W} (h : LcAt K m1 H1 D m' H' S' accW) (r1 : RepS K m1 H1 S1) (nD : H1 D = none) (e : H' D = some (.lst acc)) (rv : RepW K m' H' v w) : LcAt K m1 H1 D m' (upd H' D (.lst (acc ++ [v]))) S' (accW ++ [w]) := by
  have hD : D ∈ m'.hid := by rw [h.hid]; exact List.mem_cons_self
  refine ⟨h.grw.trans (Grw.write (.inl hD)), h.hid, fun a ha => ?_, h.rs.hidw hD, ⟨_, upd_same, ?_⟩⟩
  · obtain ⟨u, q⟩ := r1.trk a ha
    rw [upd_ne (ne_of_none q nD)]
    exact h.still a ha
  · obtain ⟨acc', e', r⟩ := h.acc
    rw [e] at e'
    cases e'
    exact (r.append (.cons rv .nil)).step (Grw.write (.inl hD))
/-- behind it -/
theorem LcAt.fin {K : PySem.W.Frag} {m1 : Own} {H1 : Hp} {D : Addr} {m' : Own} {H' : Hp} {S1 S' : Store} {accW : List W} (h : LcAt K m1 H1 D m' H' S' accW) (r1 : RepS K m1 H1 S1) (nD : H1 D = none) :
    Step m1 H1 ⟨m'.ms, m1.hid⟩ H' ∧ RepS K ⟨m'.ms, m1.hid⟩ H' S' ∧ RepW K ⟨m'.ms, m1.hid⟩ H' (.ref D) (.lst accW) := by
  have sub : ∀ a, a ∈ m1.hid → a ∈ m'.hid := fun a ha => by rw [h.hid]; exact List.mem_cons_of_mem _ ha
  have g : Grw m1 H1 m' H' := (Grw.hide nD).trans h.grw
  have ho : ∀ a, owned ⟨m'.ms, m1.hid⟩ a → owned m' a := fun a z => z.elim (fun q => .inl (sub a q)) .inr
  refine ⟨⟨⟨g.pre, fun p hp n => g.new p (ho p hp) n, g.keep⟩, rfl, h.still⟩, h.rs.show' sub, ?_⟩
  obtain ⟨acc, e, r⟩ := h.acc
  refine .lst ⟨e, fun z => ?_⟩ (RepWs.less (m := m') (m' := ⟨m'.ms, m1.hid⟩) rfl ho r)
  rcases z with z | ⟨l, hl, hd⟩
  · obtain ⟨u, q⟩ := r1.trk D z
    rw [nD] at q
    cases q
  · obtain ⟨k, hk⟩ := List.getElem?_of_mem hl
    exact h.rs.dish k l hk D hd (by rw [h.hid]; exact List.mem_cons_self)
theorem wipe_in {σ : L2.St} {i : Nat} : ∀ {vs : List Nat}, i ∈ vs → i < σ.length → (wipe σ vs)[i]? = some none
  | [], h, _ => by simp at h
  | v :: vs, h, hl => by
    unfold wipe
    by_cases e : v = i
    · subst e
      rw [List.getElem?_set_self (by rw [wipe_length]; exact hl)]
    · rw [List.getElem?_set_ne e]
      exact wipe_in (by
        rcases List.mem_cons.mp h with h | h
        · exact absurd h.symm e
        · exact h) hl
theorem wipe_wipe {σ : L2.St} (vs : List Nat) : wipe (wipe σ vs) vs = wipe σ vs := by
  apply List.ext_getElem?
  intro i
  by_cases hi : i ∈ vs
  · by_cases hl : i < σ.length
    · rw [wipe_in hi (by rw [wipe_length]; exact hl), wipe_in hi hl]
    · rw [List.getElem?_eq_none (by rw [wipe_length, wipe_length]; omega), List.getElem?_eq_none (by rw [wipe_length]; omega)]
  · rw [wipe_out hi]
theorem lc_core' {fi : IF} {g : GF} {t : BF} {e : EF} {E : Str → Hp → Prop} {K : PySem.W.Frag} {σ : L2.St} {H : Hp} {Q : VK} {m : Own} {d : En} {S : Store} {vs : List Nat} (hE : RepE K m H σ d) (hS : RepS K m H S) (hp : Post K E m H (eLc vs fi g t e d S) (CV K Q)) : tLc (rI K E fi) (rGw K vs g) (rB K NoE t) (rE K NoE e) vs σ H Q := by
  refine ⟨m, d, S, hE, hS, Post.bind hp fun ws S1 m1 H1 s1 r1 h1 J J1 D nD => ?_⟩
  split at h1
  · rename_i ys Sf e0
    split at h1
    · rename_i hl
      refine ⟨fun i k H' => ∃ m' S' accW ys', LcAt K m1 H1 D m' H' S' accW ∧ accW.length ≤ i ∧ i ≤ ws.length ∧ k = ws.length - i ∧ lcF g t e (wipeE d vs) (ws.drop i) S' = .ok ys' Sf ∧ accW ++ ys' = ys,
        ⟨ws.length, _, S1, [], ys, LcAt.start r1 nD, Nat.le_refl _, Nat.zero_le _, rfl, e0, rfl⟩, ?_⟩
      rintro i k H2 ⟨m2, S2, accW, ys', L2', la, hi, rfl, e2, e3⟩
      have g2 : Grw m1 H1 m2 H2 := (Grw.hide nD).trans L2'.grw
      by_cases hlt : i < ws.length
      · refine .inr ⟨J1.go m2 H2 g2 i hlt, fun H' => ∃ m' S' accW ys', LcAt K m1 H1 D m' H' S' accW ∧ accW.length ≤ i + 1 ∧ lcF g t e (wipeE d vs) (ws.drop (i + 1)) S' = .ok ys' Sf ∧ accW ++ ys' = ys,
          fun H' ⟨m', S', aw, y', a1, a2, a3, a4⟩ => ⟨ws.length - (i + 1), by omega, m', S', aw, y', a1, a2, hlt, rfl, a3, a4⟩, fun x H3 y => ?_⟩
        obtain ⟨s3, r3, w, ew, rw'⟩ := J1.yld m2 H2 S2 g2 L2'.rs i x H3 hlt y
        have ed : ws.drop i = w :: ws.drop (i + 1) := by
          rw [List.drop_eq_getElem_cons hlt]
          congr 1
          have := List.getElem?_eq_getElem hlt
          rw [ew] at this
          exact (Option.some.inj this).symm
        rw [ed] at e2
        obtain ⟨d1, T1, q1, e2⟩ := bind_ok e2
        obtain ⟨b, T2, q2, e2⟩ := bind_ok e2
        refine ⟨m2, w, wipeE d vs, S2, (hE.wipe vs).step (s1.g.trans (g2.trans s3.g)), r3, rw', post_ok q1 fun m4 H4 s4 r4 σ4 he4 wp => ⟨wp.trans ?_, m4, d1, T1, he4, r4, post_ok q2 fun m5 H5 s5 r5 => ?_⟩⟩
        · exact wipe_wipe vs
        · cases b with
          | false =>
            refine CB.ff ?_
            exact ⟨m5, T2, accW, ys', L2'.step (s3.trans (s4.trans s5)) r5, Nat.le_succ_of_le la, e2, e3⟩
          | true =>
            obtain ⟨z, T3, q3, e2⟩ := bind_ok e2
            obtain ⟨zs, T4, q4, e2⟩ := bind_ok e2
            refine CB.tt ?_
            refine ⟨m5, d1, T2, he4.step s5.g, r5, post_ok q3 fun m6 H6 s6 r6 v rv => ?_⟩
            have L6 := L2'.step (s3.trans (s4.trans (s5.trans s6))) r6
            obtain ⟨acc, ea, ra⟩ := L6.acc
            cases e2
            refine ⟨acc, ea, Nat.lt_of_le_of_lt (show acc.length ≤ 100000 by rw [ra.length]; omega) (by decide), m6, T3, accW ++ [z], zs, L6.put r1 nD ea rv, by simp; exact la, q4, by rw [List.append_assoc]; exact e3⟩
      · have e4 : i = ws.length := by omega
        subst e4
        refine .inl ⟨J1.stop m2 H2 g2 _ rfl, ?_⟩
        rw [List.drop_length] at e2
        cases e2
        rw [List.append_nil] at e3
        subst e3
        obtain ⟨f1, f2, f3⟩ := L2'.fin r1 nD
        exact h1 _ _ f1 f2 _ f3
    · exact h1.elim
  · exact h1.elim
theorem ev_lc (hc : X.calm = true) (hN : X.N.Nodup) (hi : PIv X E tg iter fi) (ok : BlkOk X.N X.env.scope scope own)
    (hg : ∀ (s : Shared) (H : Hp) (C : Addr) (cl : List (Str × Addr)) (fp : List Addr), PGw (X.blk s H scope (compEnvC scope cl C X.env) fp) (own.map (·.2)) tg g) (ht : ∀ (s : Shared) (H : Hp) (C : Addr) (cl : List (Str × Addr)) (fp : List Addr), PTsv (X.blk s H scope (compEnvC scope cl C X.env) fp) NoE ifs t)
    (he : ∀ (s : Shared) (H : Hp) (C : Addr) (cl : List (Str × Addr)) (fp : List Addr), PEv (X.blk s H scope (compEnvC scope cl C X.env) fp) NoE elt e) (hs : ∀ x, foldedSetIterable iter X.env x = pure x := by intro _; rfl) :
    PEv X E (.ListComp elt [⟨tg, iter, ifs, 0⟩] scope pos) (eLc (own.map (·.2)) fi g t e) := (pe_lc hc hN hi ok hg ht he hs).weak fun σ H Q ⟨m, d, S, hE, hS, hp⟩ => lc_core' hE hS hp
end
end Iv
end
section
set_option maxHeartbeats 2000000
set_option maxRecDepth 100000
namespace Iv
open PySem L2

/-! ### name = [..] -/
section
variable {X : Cx} {E : Str → Hp → Prop} {elt tg iter : Expr} {ifs : List Expr} {scope : Scope} {own : List (Str × Nat)} {pos spos py : Pos} {fi : IF} {g : GF} {t : BF} {e : EF} {i : Nat} {y : Str}
theorem sv_setLc (hc : X.calm = true) (hN : X.N.Nodup) (hi : PIv X E tg iter fi) (ok : BlkOk X.N X.env.scope scope own)
    (hg : ∀ (s : Shared) (H : Hp) (C : Addr) (cl : List (Str × Addr)) (fp : List Addr), PGw (X.blk s H scope (compEnvC scope cl C X.env) fp) (own.map (·.2)) tg g) (ht : ∀ (s : Shared) (H : Hp) (C : Addr) (cl : List (Str × Addr)) (fp : List Addr), PTsv (X.blk s H scope (compEnvC scope cl C X.env) fp) NoE ifs t)
    (he : ∀ (s : Shared) (H : Hp) (C : Addr) (cl : List (Str × Addr)) (fp : List Addr), PEv (X.blk s H scope (compEnvC scope cl C X.env) fp) NoE elt e)
    (hsw : swapsWith (.ListComp elt [⟨tg, iter, ifs, 0⟩] scope pos) (some (.Name y py)) spos.line X.env = pure true) (hy : X.N[i]? = some y := by rfl) (hyl : X.env.scope.names.lookup y = some .local := by rfl) (hs : ∀ x, foldedSetIterable iter X.env x = pure x := by intro _; rfl) :
    PSv X E (.Assign [.Name y py] (.ListComp elt [⟨tg, iter, ifs, 0⟩] scope pos) spos) (sAsg (eLc (own.map (·.2)) fi g t e) (gNm i)) := (ps_setLc hc hN hy hyl hsw hi ok hg ht he hs).weak fun D σ H ⟨m, d, S, hE, hS, hp⟩ => by
  have q : tLc (rI X.K E fi) (rGw X.K (own.map (·.2)) g) (rB X.K NoE t) (rE X.K NoE e) (own.map (·.2)) σ H (fun x H1 => gName i x σ H1 D.nx) :=
    lc_core' hE hS (Post.bind hp fun w S1 m1 H1 s1 r1 h1 v rv => h1.ok r1 _ ((hE.step s1.g).set rv i))
  exact q
end

/-! ### a def's end: what it made is given up, or handed out as it stands -/
mutual
def okW (n : Nat) : W → Bool
  | .tup ws => okWs n ws
  | .lst ws => okWs n ws
  | .mt k => decide (k < n)
  | .non => true
  | .bl _ => true
  | .int _ => true
  | .str _ => true
  | .scr _ => true
  | .obj _ => true
def okWs (n : Nat) : List W → Bool
  | [] => true
  | w :: ws => okW n w && okWs n ws
end
def okKs (n : Nat) : List (Str × W) → Bool
  | [] => true
  | p :: ps => okW n p.2 && okKs n ps
def okO (n : Nat) : MO → Bool
  | .L ws => okWs n ws
  | .D ws => okKs n ws
  | .I ws => okKs n ws
  | .E _ => true
mutual
def frzW (n : Nat) (S : Store) : W → Option W
  | .tup ws => (frzWs n S ws).map .tup
  | .lst ws => if okWs n ws then some (.lst ws) else none
  | .mt k => if k < n then some (.mt k) else match S[k]? with
    | some (.L ws) => if okWs n ws then some (.lst ws) else none
    | _ => none
  | .non => some .non
  | .bl b => some (.bl b)
  | .int i => some (.int i)
  | .str s => some (.str s)
  | .scr ns => some (.scr ns)
  | .obj v => some (.obj v)
def frzWs (n : Nat) (S : Store) : List W → Option (List W)
  | [] => some []
  | w :: ws => match frzW n S w, frzWs n S ws with
    | some w', some ws' => some (w' :: ws')
    | _, _ => none
end
def fin (n : Nat) (w : W) (S : Store) : Res W := if S.length = n then .ok w S else match frzW n S w with
  | some w' => if (S.take n).all (okO n) then .ok w' (S.take n) else .bad
  | none => .bad
def finX (n : Nat) (c : Str) (S : Store) : Res W := if S.length = n then .exc c S else if (S.take n).all (okO n) then .exc c (S.take n) else .bad
/-- a new changeable object is handed out -/
def finN (n : Nat) (w : W) (S : Store) : Res W := match w with
  | .mt k => if k = n ∧ S.length = n + 1 then .ok w S else .bad
  | _ => .bad
def start0 (nN : Nat) (ws : List W) : En := ws.map some ++ List.replicate (nN - ws.length) none
def runF (nN : Nat) (b : SF) (ws : List W) (S : Store) : Res W := match b (start0 nN ws) S with
  | .ok (.rt w) S' => fin S.length w S'
  | .ok (.nx _) S' => fin S.length .non S'
  | .ok _ _ => .bad
  | .exc c S' => finX S.length c S'
  | .bad => .bad
def runN (nN : Nat) (b : SF) (ws : List W) (S : Store) : Res W := match b (start0 nN ws) S with
  | .ok (.rt w) S' => finN S.length w S'
  | _ => .bad
section
variable {K : PySem.W.Frag} {E : Str → Hp → Prop} {m m' : Own} {H H' : Hp} {S S' : Store}
def Own.cut (m : Own) (n : Nat) : Own := ⟨m.ms.take n, m.hid⟩
theorem own_cut {n : Nat} {a : Addr} (h : owned (m.cut n) a) : owned m a := by
  rcases h with h | ⟨l, hl, ha⟩
  · exact .inl h
  · exact .inr ⟨l, List.mem_of_mem_take hl, ha⟩
theorem cut_get {n k : Nat} (h : k < n) : (m.cut n).ms[k]? = m.ms[k]? := by
  show (m.ms.take n)[k]? = _
  rw [List.getElem?_take_of_lt h]
mutual
theorem RepW.cut {n : Nat} : ∀ {v : V} {w : W}, RepW K m H v w → okW n w = true → RepW K (m.cut n) H v w
  | _, _, .non, _ => .non
  | _, _, .bl b, _ => .bl b
  | _, _, .int i, _ => .int i
  | _, _, .str x, _ => .str x
  | _, _, .tup h r, o => .tup (by
    rcases h with h | h
    · exact .inl ⟨h.1, fun z => h.2 (own_cut z)⟩
    · exact .inr h) (RepWs.cutn r (by simpa [okW] using o))
  | _, _, .lst h r, o => .lst ⟨h.1, fun z => h.2 (own_cut z)⟩ (RepWs.cutn r (by simpa [okW] using o))
  | _, _, .scr h, _ => .scr (by
    rcases h with h | h
    · exact .inl ⟨h.1, fun z => h.2 (own_cut z)⟩
    · exact .inr h)
  | _, _, .mt h, o => .mt (by
    rw [cut_get (by simpa [okW] using o)]
    exact h)
  | _, _, .obj v, _ => .obj v
theorem RepWs.cutn {n : Nat} : ∀ {vs : List V} {ws : List W}, RepWs K m H vs ws → okWs n ws = true → RepWs K (m.cut n) H vs ws
  | _, _, .nil, _ => .nil
  | _, _, .cons h r, o => by
    simp only [okWs, Bool.and_eq_true] at o
    exact .cons (RepW.cut h o.1) (RepWs.cutn r o.2)
end
theorem RepKs.cutn {n : Nat} : ∀ {vs : List (Str × V)} {ws : List (Str × W)}, RepKs K m H vs ws → okKs n ws = true → RepKs K (m.cut n) H vs ws
  | _, _, .nil, _ => .nil
  | _, _, .cons h r, o => by
    simp only [okKs, Bool.and_eq_true] at o
    exact .cons (h.cut o.1) (r.cutn o.2)
theorem RepO.cut {n : Nat} {a : Addr} {l : List Addr} {o : MO} (h : RepO K m H a l o) (ok : okO n o = true) : RepO K (m.cut n) H a l o := by
  cases o with
  | L ws =>
    obtain ⟨h1, vs, h2, h3⟩ := h
    exact ⟨h1, vs, h2, h3.cutn ok⟩
  | D ws =>
    obtain ⟨h1, vs, h2, h3⟩ := h
    exact ⟨h1, vs, h2, h3.cutn ok⟩
  | I ws =>
    obtain ⟨C, dx, vs, h1, h2, h3, h4, h5⟩ := h
    exact ⟨C, dx, vs, h1, h2, h3, h4, h5.cutn ok⟩
  | E c => exact h
theorem RepS.cut (h : RepS K m H S) {n : Nat} (ok : (S.take n).all (okO n) = true) : RepS K (m.cut n) H (S.take n) where
  len := by
    show (m.ms.take n).length = _
    rw [List.length_take, List.length_take, h.len]
  obj := fun k o e => by
    have hk : k < n := by
      have := (List.getElem?_eq_some_iff.mp e).1
      rw [List.length_take] at this
      omega
    have e' := e
    rw [List.getElem?_take_of_lt hk] at e'
    obtain ⟨a, l, e1, r⟩ := h.obj k o e'
    refine ⟨a, l, by rw [cut_get hk]; exact e1, r.cut ?_⟩
    exact List.all_eq_true.mp ok o (List.mem_of_getElem? e)
  disj := fun j k l l' hjk hj hk => by
    have lt : ∀ {i : Nat} {l : List Addr}, (m.ms.take n)[i]? = some l → m.ms[i]? = some l := fun {i l} e => by
      have hi : i < n := by
        have := (List.getElem?_eq_some_iff.mp e).1
        rw [List.length_take] at this
        omega
      rw [List.getElem?_take_of_lt hi] at e
      exact e
    exact h.disj j k l l' hjk (lt hj) (lt hk)
  trk := h.trk
  dish := fun k l hk => by
    have hi : k < n := by
      have := (List.getElem?_eq_some_iff.mp hk).1
      have q : (m.cut n).ms.length = min n m.ms.length := List.length_take
      omega
    rw [cut_get hi] at hk
    exact h.dish k l hk
theorem Step.cut (s : Step m H m' H') (h : RepS K m H S) : Step m H (m'.cut S.length) H' := by
  refine ⟨⟨fun k a l e => ?_, fun p hp n => s.g.new p (own_cut hp) n, s.g.keep⟩, s.hid, s.still⟩
  obtain ⟨l', e'⟩ := s.g.pre k a l e
  have hk : k < S.length := by rw [← h.len]; exact (List.getElem?_eq_some_iff.mp e).1
  exact ⟨l', by rw [cut_get hk]; exact e'⟩
mutual
theorem RepW.frz {n : Nat} (rs : RepS K m H S) : ∀ {v : V} {w w' : W}, RepW K m H v w → frzW n S w = some w' → RepW K (m.cut n) H v w'
  | _, _, _, .non, h => by simp only [frzW, Option.some.injEq] at h; subst h; exact .non
  | _, _, _, .bl b, h => by simp only [frzW, Option.some.injEq] at h; subst h; exact .bl b
  | _, _, _, .int b, h => by simp only [frzW, Option.some.injEq] at h; subst h; exact .int b
  | _, _, _, .str b, h => by simp only [frzW, Option.some.injEq] at h; subst h; exact .str b
  | _, _, _, .obj b, h => by simp only [frzW, Option.some.injEq] at h; subst h; exact .obj b
  | _, _, _, .scr q, h => by
    simp only [frzW, Option.some.injEq] at h
    subst h
    exact RepW.cut (.scr q) rfl
  | _, _, _, .tup q r, h => by
    simp only [frzW, Option.map_eq_some_iff] at h
    obtain ⟨ws', h1, rfl⟩ := h
    refine .tup ?_ (RepWs.frz rs r h1)
    rcases q with q | q
    · exact .inl ⟨q.1, fun z => q.2 (own_cut z)⟩
    · exact .inr q
  | _, _, _, .lst q r, h => by
    simp only [frzW] at h
    split at h
    · rename_i ok
      cases h
      exact RepW.cut (.lst q r) (by simpa [okW] using ok)
    · cases h
  | _, _, _, .mt (k := k) (a := a) (l := l) e, h => by
    simp only [frzW] at h
    split at h
    · rename_i hk
      cases h
      exact .mt (by rw [cut_get hk]; exact e)
    · rename_i hk
      split at h
      · rename_i ws e1
        split at h
        · rename_i ok
          cases h
          obtain ⟨a', l', e2, e3, vs, h1, h2⟩ := rs.obj k _ e1
          rw [e] at e2
          cases e2
          refine .lst ⟨h1, fun z => ?_⟩ (h2.cutn ok)
          rcases z with z | ⟨l2, hl, ha⟩
          · exact rs.dish k _ e a List.mem_cons_self z
          · obtain ⟨j, hj⟩ := List.getElem?_of_mem hl
            have hjn : j < n := by
              have := (List.getElem?_eq_some_iff.mp hj).1
              have q : (m.cut n).ms.length = min n m.ms.length := List.length_take
              omega
            rw [cut_get hjn] at hj
            exact rs.disj k j _ _ (by omega) e hj a List.mem_cons_self ha
        · cases h
      · cases h
theorem RepWs.frz {n : Nat} (rs : RepS K m H S) : ∀ {vs : List V} {ws ws' : List W}, RepWs K m H vs ws → frzWs n S ws = some ws' → RepWs K (m.cut n) H vs ws'
  | _, _, _, .nil, h => by simp only [frzWs, Option.some.injEq] at h; subst h; exact .nil
  | _, _, _, .cons hv hr, h => by
    simp only [frzWs] at h
    split at h
    · rename_i d ds' e1 e2
      cases h
      exact .cons (RepW.frz rs hv e1) (RepWs.frz rs hr e2)
    · cases h
end
theorem fin_ok {w : W} {v : V} {Q : VK} {S0 : Store} {m0 : Own} {H0 : Hp} (h0 : RepS K m0 H0 S0) (s : Step m0 H0 m H) (rs : RepS K m H S) (rv : RepW K m H v w) (hp : Post K E m0 H0 (fin S0.length w S) (CV K Q)) : Q v H := by
  unfold fin at hp
  split at hp
  · exact hp m H s rs v rv
  · split at hp
    · rename_i w' e
      split at hp
      · rename_i ok
        exact hp _ H (s.cut h0) (rs.cut ok) v (rv.frz rs e)
      · exact hp.elim
    · exact hp.elim
theorem finX_ok {c : Str} {S0 : Store} {m0 : Own} {H0 : Hp} {C : Own → Hp → W → Prop} (h0 : RepS K m0 H0 S0) (s : Step m0 H0 m H) (rs : RepS K m H S) (hp : Post K E m0 H0 (finX S0.length c S) C) : E c H := by
  unfold finX at hp
  split at hp
  · exact hp m H s rs
  · split at hp
    · rename_i ok
      exact hp _ H (s.cut h0) (rs.cut ok)
    · exact hp.elim
end

/-! ### what a def promises -/
def spF (K : PySem.W.Frag) (EE : XK → Str → Hp → Prop) (n : Nat) (F : List W → Store → Res W) : Sp := fun vs H Q E => vs.length = n ∧ ∃ m ws S, RepWs K m H vs ws ∧ RepS K m H S ∧ Post K (EE E) m H (F ws S) (CV K Q)
abbrev EE0 : XK → Str → Hp → Prop := fun _ => NoE
structure Ok (P : Program) (w : World) (K : PySem.W.Frag) (mg : Str → Option Value) (base : Heap) (k : Nat) (x : Str) (n : Nat) (F : List W → Store → Res W) : Prop where
  ex : ∃ (f : Addr) (fd : FuncData) (ps : List Str), ps.length = n ∧ FnOk P w K mg base CX0 k f fd ps (spF K EE0 n F) ∧ mg x = some (.ref f) ∧ PySem.W.keepIn K (.ref f) = true ∧ Binds K fd ps []
def eFn (n : Nat) (F : List W → Store → Res W) (a : AF) : EF := fun d S => (a d S).bind fun ws S1 => if ws.length = n then F ws S1 else .bad
section
variable {P : Program} {w : World} {K : PySem.W.Frag} {mg : Str → Option Value} {base : Heap}
theorem start_rep {m : Own} {H : Hp} {N : List Str} {vs : List V} {ws : List W} (r : RepWs K m H vs ws) : RepE K m H (L2.start N vs) (start0 N.length ws) := by
  unfold L2.start start0
  refine ⟨by simp [r.length], fun i u e => ?_⟩
  by_cases hi : i < ws.length
  · rw [List.getElem?_append_left (by simpa using hi), List.getElem?_map] at e
    cases q : ws[i]? with
    | none => rw [q] at e; cases e
    | some z =>
      rw [q] at e
      cases e
      obtain ⟨v, e1, r1⟩ := r.get i u q
      exact ⟨v, by rw [List.getElem?_append_left (by rw [List.length_map, r.length]; exact hi), List.getElem?_map, e1]; rfl, r1⟩
  · rw [List.getElem?_append_right (by simpa using hi), List.getElem?_replicate] at e
    split at e <;> cases e
/-- a def that lets no exception out -/
theorem fnok_fn {x qual : Str} {st : Stmt} {f : Addr} {fd : FuncData} {N ps : List Str} {k : Nat} {b : SF} (F : Fun K x qual st f fd) (Sc : FnScope N ps (defScope st))
    (hbody : ∀ (cdv : Value) (A : Around) (outer : List Env) (s : Shared) (H : Hp) (E : XK), Room k (A.deeper (PyProof.Rows.envOfC qual (defScope st) s.heap.objs.size f cdv)) → PSsv (cxOf CX0 P w K mg base N qual (defScope st) f cdv A outer s H E).nox NoE (defBody st) b) :
    FnOk P w K mg base CX0 (k + 1) f fd ps (spF K EE0 ps.length (runF N.length b)) := by
  refine F.ok Sc (fun vs H Q E h => h.1) (fun cdv A outer s H vs Q E hr h => ⟨_, hbody cdv A outer s H E hr, ?_⟩)
  obtain ⟨hl, m, ws, S, rv, rs, hp⟩ := h
  refine ⟨m, start0 N.length ws, S, start_rep rv, rs, ?_⟩
  unfold runF at hp
  split at hp
  · rename_i w' S' e
    exact post_ok e fun m' H' s' rs' v rv' => fin_ok rs s' rs' rv' hp
  · rename_i d' S' e
    exact post_ok e fun m' H' s' rs' σ' _ => fin_ok rs s' rs' .non hp
  · exact hp.elim
  · rename_i c S' e
    rw [e]
    intro m' H' s' rs'
    exact finX_ok rs s' rs' hp
  · exact hp.elim
theorem ok_fn {x qual : Str} {st : Stmt} {f : Addr} {fd : FuncData} {N ps : List Str} {k : Nat} {b : SF} (F : Fun K x qual st f fd) (Sc : FnScope N ps (defScope st))
    (hbody : ∀ (cdv : Value) (A : Around) (outer : List Env) (s : Shared) (H : Hp) (E : XK), Room k (A.deeper (PyProof.Rows.envOfC qual (defScope st) s.heap.objs.size f cdv)) → PSsv (cxOf CX0 P w K mg base N qual (defScope st) f cdv A outer s H E).nox NoE (defBody st) b)
    (hg : mg x = some (.ref f)) (hb : ∀ (kV doc pm : Value) (an : Option Addr) (cdv ct : Value) (us : List Value), us.length = ps.length → bindArgs (PySem.W.fnOf x qual (defArgs st) (defBody st) (defScope st) .none kV doc pm an cdv ct) ⟨us, []⟩ = pure (ps.zip us)) :
    Ok P w K mg base (k + 1) x ps.length (runF N.length b) := ⟨f, fd, ps, rfl, fnok_fn F Sc hbody, hg, F.kp, F.binds hb⟩
theorem ok_new {x qual : Str} {st : Stmt} {f : Addr} {fd : FuncData} {N ps : List Str} {k : Nat} {b : SF} (F : Fun K x qual st f fd) (Sc : FnScope N ps (defScope st))
    (hbody : ∀ (cdv : Value) (A : Around) (outer : List Env) (s : Shared) (H : Hp) (E : XK), Room k (A.deeper (PyProof.Rows.envOfC qual (defScope st) s.heap.objs.size f cdv)) → PSsv (cxOf CX0 P w K mg base N qual (defScope st) f cdv A outer s H E).nox NoE (defBody st) b)
    (hg : mg x = some (.ref f)) (hb : ∀ (kV doc pm : Value) (an : Option Addr) (cdv ct : Value) (us : List Value), us.length = ps.length → bindArgs (PySem.W.fnOf x qual (defArgs st) (defBody st) (defScope st) .none kV doc pm an cdv ct) ⟨us, []⟩ = pure (ps.zip us)) :
    Ok P w K mg base (k + 1) x ps.length (runN N.length b) := by
  refine ⟨f, fd, ps, rfl, F.ok Sc (fun vs H Q E h => h.1) (fun cdv A outer s H vs Q E hr h => ⟨_, hbody cdv A outer s H E hr, ?_⟩), hg, F.kp, F.binds hb⟩
  obtain ⟨hl, m, ws, S, rv, rs, hp⟩ := h
  refine ⟨m, start0 N.length ws, S, start_rep rv, rs, ?_⟩
  unfold runN at hp
  split at hp
  · rename_i w' S' e
    refine post_ok e fun m' H' s' rs' v rv' => ?_
    unfold finN at hp
    split at hp
    · split at hp
      · exact hp m' H' s' rs' v rv'
      · exact hp.elim
    · exact hp.elim
  · exact hp.elim
end
section
variable {X : Cx} {e : Expr} {es : List Expr} {fa : AF} {x : Str} {p pos : Pos} {k n : Nat} {F : List W → Store → Res W}
theorem ev_fn (G : Ok X.prog X.w X.K X.mg X.base k x n F) (hr : Room k X.A) (ha : PAv X NoE (e :: es) fa) (hg : Gl X x := by rfl) (hdb : (x == ("__debug__" : Str)) = false := by decide) (he : starEach (e :: es) X.env = (false, eval e X.env) :: starEach es X.env := by rfl) (hpl : (backTo pos (starEach es X.env)).any (·.1) = false := by rfl) :
    PEv X NoE (.Call (.Name x p) (e :: es) [] pos) (eFn n F fa) := by
  obtain ⟨f, fd, ps, hl, G, hm, hk, hb⟩ := G.ex
  refine (pe_call G hr hg hm hk hb .nil pass0 ha hdb he hpl).weak fun σ H Q ⟨m, d, S, he, hs, hp⟩ => ?_
  refine ⟨m, d, S, he, hs, Post.bind hp fun ws S1 m1 H1 s1 r1 h1 vs rv => ?_⟩
  split at h1
  · rename_i hn
    exact ⟨by rw [List.append_nil, rv.length]; exact hn, m1, ws, S1, by rw [List.append_nil]; exact rv, r1, h1⟩
  · exact h1.elim
theorem ev_fn0 (G : Ok X.prog X.w X.K X.mg X.base k x 0 F) (hr : Room k X.A) (hg : Gl X x := by rfl) (hdb : (x == ("__debug__" : Str)) = false := by decide) :
    PEv X NoE (.Call (.Name x p) [] [] pos) (eFn 0 F aNil) := by
  obtain ⟨f, fd, ps, hl, G, hm, hk, hb⟩ := G.ex
  refine (pe_call0 G hr hg hm hk hb .nil pass0 hdb).weak fun σ H Q ⟨m, d, S, he, hs, hp⟩ => ?_
  exact ⟨rfl, m, [], S, .nil, hs, hp⟩
end
end Iv
end
section
set_option maxHeartbeats 2000000
set_option maxRecDepth 100000
namespace PyProof.Rows
open PySem
section
variable {prog : Program} {w : World} {A : Around} {E : Value → Shared → Prop} {s : Shared}
/-- as collect_list, of a tuple -/
theorem collect_tuple {l : Addr} {vs : List Value} {Q : List Value → Shared → Prop} (hl : s.heap.IsTuple l vs.toArray)
    (h : Q vs { s with heap := (s.heap.push (seqObj "list" #[] 0)).update s.heap.objs.size (Obj.mapSeq (· ++ vs.toArray)) }) (hsz : vs.length ≤ sizeLine) :
    wpAny (model prog w) A (collect (.ref l)) Q E s := by
  obtain ⟨o, ho, hc, n, hd⟩ := id hl
  unfold collect
  refine wpAny_bind (wpAny_runValue (codeAny_builtin entry_proto_collect' ?_))
  show wpAny _ _ (do again (.builtin "list.__iadd__" ⟨[← newList [], .ref l], []⟩)) _ _ s
  refine wpAny_bind (wpAny_newList (wpAny_pure ⟨Code.quiet_builtin _ (by decide +kernel), codeAny_builtin entry_list_iadd' ?_⟩))
  show wpAny _ _ (Builtin.List.listExtendWith (.ref s.heap.objs.size) (.ref l) (.ref s.heap.objs.size)) _ _ { s with heap := s.heap.push (seqObj "list" #[] 0) }
  unfold Builtin.List.listExtendWith
  have ho' : (s.heap.push (seqObj "list" #[] 0)).get? l = some o := Heap.get?_push_of_some _ ho
  refine wpAny_bind (wpAny_typeOf (T := "tuple") ⟨o, ho', hc⟩ ?_)
  have ht : (Value.type "tuple" == Value.type "tuple") = true := by rfl
  rw [if_pos (by rw [ht]; simp)]
  refine wpAny_bind (listItems_at ho' hd ?_)
  refine wpAny_bind (listItems_at (xs := #[]) (n := 0) (Heap.get?_push_size _ rfl) rfl ?_)
  rw [if_neg (by simp)]
  refine wpAny_bind (listUpdate_at (xs := #[]) (n := 0) (Heap.get?_push_size _ rfl) rfl ?_ (Nat.zero_le _) (by show (#[] ++ vs.toArray).size ≤ sizeLine + 1; simp only [Array.size_append, List.size_toArray, List.length_nil]; omega))
  refine wpAny_pure ?_
  show wpAny (model prog w) A (do
      let o ← load s.heap.objs.size
      match o.data with
      | .seq xs _ => pure xs.toList
      | _ => unsupported "internal:collect") Q E { s with heap := (s.heap.push (seqObj "list" #[] 0)).update s.heap.objs.size (Obj.mapSeq (· ++ vs.toArray)) }
  refine wpAny_bind (wpAny_load (get?_update_seq (Heap.get?_push_size _ rfl) _) ?_)
  show wpAny _ _ (pure ((#[] : Array Value) ++ vs.toArray).toList) Q E _
  rw [show ((#[] : Array Value) ++ vs.toArray).toList = vs by simp]
  exact wpAny_pure h
theorem sorted_intsT {l : Addr} {vs : List Value} {ns : List Int} {Q : Value → Shared → Prop} (hl : s.heap.IsTuple l vs.toArray) (hI : IntsAre vs ns) (h64 : vs.length < 64)
    (h : ∀ (out : Array Value) (ns' : List Int), IntsAre out.toList ns' → ns'.Perm ns → ns'.Pairwise (· ≤ ·) → Q (.ref (s.heap.objs.size + 1)) { s with heap := sortedAll s.heap vs out }) :
    wpAny (model prog w) A (call (.builtin "sorted") [.ref l]) Q E s := by
  refine Calls.call_function_entry kind_sorted plain_sorted entry_sorted (args_sorted1 _) ?_
  unfold Builtin.«sorted»
  refine wpAny_bind (m := checkCount "sorted" 1 1 _) (wpAny_pure ?_)
  refine wpAny_bind (collect_tuple hl ?_ (by rw [sizeLine_eq]; omega))
  refine wpAny_bind (wpAny_newList ?_)
  have hsz : ((s.heap.push (seqObj "list" #[] 0)).update s.heap.objs.size (Obj.mapSeq (· ++ vs.toArray))).objs.size = s.heap.objs.size + 1 := by
    rw [Heap.size_update, size_push']
  have hoL : (((s.heap.push (seqObj "list" #[] 0)).update s.heap.objs.size (Obj.mapSeq (· ++ vs.toArray))).push (seqObj "list" vs.toArray 0)).get? (s.heap.objs.size + 1) = some (seqObj "list" vs.toArray 0) := by
    rw [← hsz]; exact Heap.get?_push_size _ rfl
  show wpAny _ _ _ _ _ { s with heap := ((s.heap.push (seqObj "list" #[] 0)).update s.heap.objs.size (Obj.mapSeq (· ++ vs.toArray))).push (seqObj "list" vs.toArray 0) }
  rw [hsz]
  refine wpAny_bind (wpAny_holding (wpAny_call_entry slot_list_sort ⟨_, hoL, rfl⟩ entry_list_sort (list_sort_tree hoL hI h64 fun out ns' a1 a2 a3 => ⟨_, rfl, ?_⟩) (args_list_sort _)))
  exact wpAny_pure ⟨_, rfl, h out ns' a1 a2 a3⟩
end
end PyProof.Rows
namespace PySem
open PySem.W
section
variable {prog : Program} {w : World} {A : Around} {E : Value → Shared → Prop} {s : Shared}
/-- as min_list_data, the place told -/
theorem min_list_ix {l : Addr} {vs : Array Value} {x : PyData} {xs : List PyData} {as : List Addr} {Q : Value → Shared → Prop} (hh : A.handled = none) (hl : s.heap.IsList l vs) (hr : ReadsAll s.heap vs.toList (x :: xs) as) (ha : AlikeAll (x :: xs)) (hu : A.units + 1 + PyData.depthAll (x :: xs) < cLine)
    (h : ∀ (i : Nat) v h' tk, vs[i]? = some v → (x :: xs).getD i .none = minD x xs → (∀ b o, s.heap.get? b = some o → h'.get? b = some o) → Q v { s with heap := h', toks := tk }) :
    wpAny (model prog w) A (call (.builtin "min") [.ref l]) Q E s := by
  have hn : vs.size = xs.length + 1 := readsAll_len hr
  refine call_min_walkH (iter_listW (A := A.in1) hh hl fun s₂ e W st hfp hw hk => ?_)
  refine ⟨_, _, _, _, _, _, _, s.heap, _, rfl, W, st, hfp, by omega, hw, hk, cmpIn_lt (A := A.in1) hr ha (by show A.units + 1 + _ < _; exact hu), fun v s' hP m => ?_⟩
  obtain ⟨h', tk, rfl, hk'⟩ := moved_old e rfl m
  have e1 : vs.size - 1 = xs.length := by omega
  have e2 := (argBest_fold dataLt PyData.none x xs xs.length (Nat.le_refl _)).2
  rw [List.take_length] at e2
  rw [e1] at hP
  exact h _ v h' tk hP (by unfold minD; rw [← e2]) hk'
theorem min_tuple_ix {l : Addr} {vs : Array Value} {x : PyData} {xs : List PyData} {as : List Addr} {Q : Value → Shared → Prop} (hh : A.handled = none) (hl : s.heap.IsTuple l vs) (hr : ReadsAll s.heap vs.toList (x :: xs) as) (ha : AlikeAll (x :: xs)) (hu : A.units + 1 + PyData.depthAll (x :: xs) < cLine)
    (h : ∀ (i : Nat) v h' tk, vs[i]? = some v → (x :: xs).getD i .none = minD x xs → (∀ b o, s.heap.get? b = some o → h'.get? b = some o) → Q v { s with heap := h', toks := tk }) :
    wpAny (model prog w) A (call (.builtin "min") [.ref l]) Q E s := by
  have hn : vs.size = xs.length + 1 := readsAll_len hr
  refine call_min_walkH (iter_tupleW (A := A.in1) hh hl fun s₂ e W st hfp hw hk => ?_)
  refine ⟨_, _, _, _, _, _, _, s.heap, _, rfl, W, st, hfp, by omega, hw, hk, cmpIn_lt (A := A.in1) hr ha (by show A.units + 1 + _ < _; exact hu), fun v s' hP m => ?_⟩
  obtain ⟨h', tk, rfl, hk'⟩ := moved_old e rfl m
  have e1 : vs.size - 1 = xs.length := by omega
  have e2 := (argBest_fold dataLt PyData.none x xs xs.length (Nat.le_refl _)).2
  rw [List.take_length] at e2
  rw [e1] at hP
  exact h _ v h' tk hP (by unfold minD; rw [← e2]) hk'
theorem max_list_ix {l : Addr} {vs : Array Value} {x : PyData} {xs : List PyData} {as : List Addr} {Q : Value → Shared → Prop} (hh : A.handled = none) (hl : s.heap.IsList l vs) (hr : ReadsAll s.heap vs.toList (x :: xs) as) (ha : AlikeAll (x :: xs)) (hu : A.units + 1 + PyData.depthAll (x :: xs) < cLine)
    (h : ∀ (i : Nat) v h' tk, vs[i]? = some v → (x :: xs).getD i .none = maxD x xs → (∀ b o, s.heap.get? b = some o → h'.get? b = some o) → Q v { s with heap := h', toks := tk }) :
    wpAny (model prog w) A (call (.builtin "max") [.ref l]) Q E s := by
  have hn : vs.size = xs.length + 1 := readsAll_len hr
  refine call_max_walkH (iter_listW (A := A.in1) hh hl fun s₂ e W st hfp hw hk => ?_)
  refine ⟨_, _, _, _, _, _, _, s.heap, _, rfl, W, st, hfp, by omega, hw, hk, cmpIn_gt (A := A.in1) hr ha (by show A.units + 1 + _ < _; exact hu), fun v s' hP m => ?_⟩
  obtain ⟨h', tk, rfl, hk'⟩ := moved_old e rfl m
  have e1 : vs.size - 1 = xs.length := by omega
  have e2 := (argBest_fold (fun a b => dataLt b a) PyData.none x xs xs.length (Nat.le_refl _)).2
  rw [List.take_length] at e2
  rw [e1] at hP
  exact h _ v h' tk hP (by unfold maxD; rw [← e2]) hk'
theorem max_tuple_ix {l : Addr} {vs : Array Value} {x : PyData} {xs : List PyData} {as : List Addr} {Q : Value → Shared → Prop} (hh : A.handled = none) (hl : s.heap.IsTuple l vs) (hr : ReadsAll s.heap vs.toList (x :: xs) as) (ha : AlikeAll (x :: xs)) (hu : A.units + 1 + PyData.depthAll (x :: xs) < cLine)
    (h : ∀ (i : Nat) v h' tk, vs[i]? = some v → (x :: xs).getD i .none = maxD x xs → (∀ b o, s.heap.get? b = some o → h'.get? b = some o) → Q v { s with heap := h', toks := tk }) :
    wpAny (model prog w) A (call (.builtin "max") [.ref l]) Q E s := by
  have hn : vs.size = xs.length + 1 := readsAll_len hr
  refine call_max_walkH (iter_tupleW (A := A.in1) hh hl fun s₂ e W st hfp hw hk => ?_)
  refine ⟨_, _, _, _, _, _, _, s.heap, _, rfl, W, st, hfp, by omega, hw, hk, cmpIn_gt (A := A.in1) hr ha (by show A.units + 1 + _ < _; exact hu), fun v s' hP m => ?_⟩
  obtain ⟨h', tk, rfl, hk'⟩ := moved_old e rfl m
  have e1 : vs.size - 1 = xs.length := by omega
  have e2 := (argBest_fold (fun a b => dataLt b a) PyData.none x xs xs.length (Nat.le_refl _)).2
  rw [List.take_length] at e2
  rw [e1] at hP
  exact h _ v h' tk hP (by unfold maxD; rw [← e2]) hk'
end
end PySem
namespace Iv
open PySem L2

/-! ### plain functions -/
def insI (n : Int) : List Int → List Int
  | [] => [n]
  | k :: r => if n ≤ k then n :: k :: r else k :: insI n r
def sortI : List Int → List Int
  | [] => []
  | n :: r => insI n (sortI r)
theorem insI_perm (n : Int) : ∀ l : List Int, (insI n l).Perm (n :: l)
  | [] => .refl _
  | k :: r => by
    unfold insI
    split
    · exact .refl _
    · exact ((insI_perm n r).cons k).trans (List.Perm.swap n k r)
theorem sortI_perm : ∀ l : List Int, (sortI l).Perm l
  | [] => .refl _
  | n :: r => (insI_perm n (sortI r)).trans ((sortI_perm r).cons n)
theorem insI_sorted (n : Int) : ∀ l : List Int, l.Pairwise (· ≤ ·) → (insI n l).Pairwise (· ≤ ·)
  | [], _ => by simp [insI]
  | k :: r, h => by
    unfold insI
    have h' := List.pairwise_cons.mp h
    split
    · rename_i hn
      refine List.pairwise_cons.mpr ⟨fun a ha => ?_, h⟩
      rcases List.mem_cons.mp ha with rfl | ha
      · exact hn
      · exact Int.le_trans hn (h'.1 a ha)
    · rename_i hn
      refine List.pairwise_cons.mpr ⟨fun a ha => ?_, insI_sorted n r h'.2⟩
      rcases List.mem_cons.mp ((insI_perm n r).mem_iff.mp ha) with rfl | ha
      · omega
      · exact h'.1 a ha
theorem sortI_sorted : ∀ l : List Int, (sortI l).Pairwise (· ≤ ·)
  | [] => List.Pairwise.nil
  | n :: r => insI_sorted n _ (sortI_sorted r)
theorem sortI_is {l l' : List Int} (h : l'.Perm l) (hs : l'.Pairwise (· ≤ ·)) : l' = sortI l := PySem.W.ksm_same (h.trans (sortI_perm l).symm) hs (sortI_sorted l)
/-! data back to a value -/
mutual
def ofD : PyData → W
  | .none => .non
  | .bool b => .bl b
  | .int i => .int i
  | .str s => .str s
  | .tuple ds => .tup (ofDs ds)
  | .list ds => .lst (ofDs ds)
  | .dict _ => .non
def ofDs : List PyData → List W
  | [] => []
  | d :: ds => ofD d :: ofDs ds
end
mutual
/-- no lists within -/
def noL : W → Bool
  | .non => true
  | .bl _ => true
  | .int _ => true
  | .str _ => true
  | .tup ws => noLs ws
  | .lst _ => false
  | .scr _ => false
  | .mt _ => false
  | .obj _ => false
def noLs : List W → Bool
  | [] => true
  | w :: ws => noL w && noLs ws
end
mutual
theorem ofD_dat : ∀ {w : W} {d : PyData}, noL w = true → dat w = some d → ofD d = w
  | .non, _, _, h => by simp only [dat, Option.some.injEq] at h; subst h; rfl
  | .bl _, _, _, h => by simp only [dat, Option.some.injEq] at h; subst h; rfl
  | .int _, _, _, h => by simp only [dat, Option.some.injEq] at h; subst h; rfl
  | .str _, _, _, h => by simp only [dat, Option.some.injEq] at h; subst h; rfl
  | .tup ws, _, n, h => by
    simp only [dat, Option.map_eq_some_iff] at h
    obtain ⟨ds, h1, rfl⟩ := h
    simp only [ofD]
    rw [ofDs_dat (by simpa [noL] using n) h1]
  | .lst _, _, n, _ => by simp [noL] at n
  | .scr _, _, n, _ => by simp [noL] at n
  | .mt _, _, n, _ => by simp [noL] at n
  | .obj _, _, n, _ => by simp [noL] at n
theorem ofDs_dat : ∀ {ws : List W} {ds : List PyData}, noLs ws = true → datL ws = some ds → ofDs ds = ws
  | [], _, _, h => by simp only [datL, Option.some.injEq] at h; subst h; rfl
  | w :: ws, _, n, h => by
    simp only [noLs, Bool.and_eq_true] at n
    simp only [datL] at h
    split at h
    · rename_i d ds' e1 e2
      cases h
      simp only [ofDs]
      rw [ofD_dat n.1 e1, ofDs_dat n.2 e2]
    · cases h
end
theorem datL_get : ∀ {ws : List W} {ds : List PyData} {i : Nat} {w : W}, datL ws = some ds → ws[i]? = some w → ∃ d, dat w = some d ∧ ds[i]? = some d
  | [], _, _, _, _, h => by simp at h
  | w :: ws, _, 0, _, h, e => by
    simp only [datL] at h
    split at h
    · rename_i d ds' e1 e2
      cases h
      simp at e
      subst e
      exact ⟨d, e1, rfl⟩
    · cases h
  | w :: ws, _, i + 1, _, h, e => by
    simp only [datL] at h
    split at h
    · rename_i d ds' e1 e2
      cases h
      obtain ⟨d', h1, h2⟩ := datL_get (i := i) e2 (by simpa using e)
      exact ⟨d', h1, by simpa using h2⟩
    · cases h
theorem noLs_get : ∀ {ws : List W} {i : Nat} {w : W}, noLs ws = true → ws[i]? = some w → noL w = true
  | [], _, _, _, h => by simp at h
  | w :: ws, 0, _, n, e => by
    simp only [noLs, Bool.and_eq_true] at n
    simp at e
    subst e
    exact n.1
  | w :: ws, i + 1, _, n, e => by
    simp only [noLs, Bool.and_eq_true] at n
    exact noLs_get (i := i) n.2 (by simpa using e)
def alikeB (ds : List PyData) : Bool := (ds.all fun x => ds.all fun y => PySem.W.alike x y) && (ds.all fun x => match x with | .none => false | _ => true)
theorem alikeB_ok {ds : List PyData} (h : alikeB ds = true) : PySem.W.AlikeAll ds := by
  unfold alikeB at h
  rw [Bool.and_eq_true, List.all_eq_true, List.all_eq_true] at h
  refine ⟨fun x hx y hy => List.all_eq_true.mp (h.1 x hx) y hy, fun x hx e => ?_⟩
  have := h.2 x hx
  rw [e] at this
  cases this
/-- the least, the greatest -/
def bestD (mx : Bool) (ws : List W) : Option W := match intsOf ws with
  | some [] => none
  | some (n :: ns) => some (.int (if mx then ns.foldl max n else ns.foldl min n))
  | none => match datL ws with
    | some (d :: ds) => if (noLs ws && alikeB (d :: ds) && decide (PyData.depthAll (d :: ds) ≤ 60)) = true then some (ofD (if mx then PySem.W.maxD d ds else PySem.W.minD d ds)) else none
    | _ => none
def bMin (ws : List W) (S : Store) : Res W := match ws with
  | [x] => match seqOf x S with
    | some zs => match bestD false zs with
      | some w => .ok w S
      | none => .bad
    | none => .bad
  | [.int i, .int j] => .ok (.int (if j < i then j else i)) S
  | _ => .bad
def bMax (ws : List W) (S : Store) : Res W := match ws with
  | [x] => match seqOf x S with
    | some zs => match bestD true zs with
      | some w => .ok w S
      | none => .bad
    | none => .bad
  | [.int i, .int j] => .ok (.int (if j > i then j else i)) S
  | _ => .bad
def bMin3 (ws : List W) (S : Store) : Res W := match ws with
  | [.int i, .int j, .int k] => .ok (.int (let m := if j < i then j else i; if k < m then k else m)) S
  | _ => .bad
def bSum (ws : List W) (S : Store) : Res W := match ws with
  | [x] => match seqOf x S with
    | some zs => match intsOf zs with
      | some ns => .ok (.int ns.sum) S
      | none => .bad
    | none => .bad
  | _ => .bad
def bSorted (ws : List W) (S : Store) : Res W := match ws with
  | [x] => match seqOf x S with
    | some zs => match intsOf zs with
      | some ns => if ns.length < 64 then .ok (.lst ((sortI ns).map .int)) S else .bad
      | none => .bad
    | none => .bad
  | _ => .bad
def bLen (ws : List W) (S : Store) : Res W := match ws with
  | [.str z] => if z.length ≤ 100000 then .ok (.int z.length) S else .bad
  | [x] => match seqOf x S with
    | some zs => .ok (.int zs.length) S
    | none => .bad
  | _ => .bad
def bAbs (ws : List W) (S : Store) : Res W := match ws with
  | [.int i] => .ok (.int (if i < 0 then -i else i)) S
  | _ => .bad
def bTuple (ws : List W) (S : Store) : Res W := match ws with
  | [x] => match seqOf x S with
    | some zs => .ok (.tup zs) S
    | none => .bad
  | _ => .bad
def bList (ws : List W) (S : Store) : Res W := match ws with
  | [x] => match seqOf x S with
    | some zs => .ok (.lst zs) S
    | none => .bad
  | _ => .bad
def bListN (ws : List W) (S : Store) : Res W := match ws with
  | [x] => match seqOf x S with
    | some zs => .ok (.mt S.length) (S ++ [.L zs])
    | none => .bad
  | _ => .bad
def blsOf : List W → Option (List Bool)
  | [] => some []
  | .bl b :: r => (blsOf r).map (b :: ·)
  | _ :: _ => none
def bAll (ws : List W) (S : Store) : Res W := match ws with
  | [x] => match listOf x S with
    | some zs => match blsOf zs with
      | some bs => .ok (.bl (bs.all id)) S
      | none => .bad
    | none => .bad
  | _ => .bad
def bAny (ws : List W) (S : Store) : Res W := match ws with
  | [x] => match listOf x S with
    | some zs => match blsOf zs with
      | some bs => .ok (.bl (bs.any id)) S
      | none => .bad
    | none => .bad
  | _ => .bad
def bInt (ws : List W) (S : Store) : Res W := match ws with
  | [.int i] => .ok (.int i) S
  | [.bl k] => .ok (.int (if k then 1 else 0)) S
  | _ => .bad
section
variable {X : Cx} {E : Str → Hp → Prop}
theorem repBls : ∀ {K : PySem.W.Frag} {m : Own} {H : Hp} {vs : List V} {ws : List W} {bs : List Bool}, RepWs K m H vs ws → blsOf ws = some bs → vs = bs.map V.bl
  | _, _, _, _, _, bs, .nil, h => by
    simp only [blsOf, Option.some.injEq] at h
    subst h
    rfl
  | _, _, _, _, _, bs, .cons hv hr, h => by
    cases hv with
    | bl i =>
      simp only [blsOf, Option.map_eq_some_iff] at h
      obtain ⟨r, h1, rfl⟩ := h
      rw [repBls hr h1]
      rfl
    | _ => simp [blsOf] at h
theorem repMapInts {K : PySem.W.Frag} {m : Own} {H : Hp} (ns : List Int) : RepWs K m H (ns.map V.int) (ns.map W.int) := repInts ns
theorem c_sum (hc : X.calm = true) : CallR X (.builtin "sum") (rF X.K E bSum) := by
  intro pins s σ H vs us Q I r ⟨m, ws, S, rs, rv, hp⟩
  unfold bSum at hp
  split at hp
  · split at hp
    · rename_i zs e1
      split at hp
      · rename_i ns e2
        cases rv with
        | cons h1 h2 =>
          cases h2
          obtain ⟨a, xs, rfl, hq, hr⟩ := h1.seq rs e1
          have ex := repLits hr e2
          subst ex
          have q := hp.ok rs _ (.int _)
          rcases hq with hq | hq
          · exact cr_sum hc pins s σ H _ us Q I r ⟨a, ns, rfl, hq, q⟩
          · obtain ⟨its, rv, hl, _⟩ := I.tuple hq
            rw [Vals.ref1 r]
            obtain ⟨ys, e⟩ := rv.ints.allInts.items
            have hn : numsOf (intItems ys).toList = ns := by rw [← e]; exact rv.ints.numsOf
            rw [nums_intItems] at hn
            rw [e] at hl
            refine PySem.W.ktm_sumG (I.ok.hd hc) hl fun h' tk t' hk => ⟨.int _, H, I.kept hk, ⟨_, rfl⟩, ?_⟩
            rw [preSum_eq, List.take_of_length_le (by simp), hn]
            exact q
      · exact hp.elim
    · exact hp.elim
  · exact hp.elim
theorem c_sorted : CallR X (.builtin "sorted") (rF X.K E bSorted) := by
  intro pins s σ H vs us Q I r ⟨m, ws, S, rs, rv, hp⟩
  unfold bSorted at hp
  split at hp
  · split at hp
    · rename_i zs e1
      split at hp
      · rename_i ns e2
        split at hp
        · rename_i h64
          cases rv with
          | cons h1 h2 =>
            cases h2
            obtain ⟨a, xs, rfl, hq, hr⟩ := h1.seq rs e1
            have ex := repLits hr e2
            subst ex
            have q : ∀ (ns' : List Int) (p : Addr), ns'.Perm ns → ns'.Pairwise (· ≤ ·) → H p = none → Q (.ref p) (upd H p (.lst (ns'.map V.int))) := fun ns' p a1 a2 np => by
              rw [sortI_is a1 a2]
              exact hp m _ (rs.allocS np) (rs.alloc np) _ (newLst rs np (repMapInts _))
            rcases hq with hq | hq
            · exact cr_sorted pins s σ H _ us Q I r ⟨a, ns, rfl, hq, h64, q⟩
            · obtain ⟨its, rv, hl, _⟩ := I.tuple hq
              rw [Vals.ref1 r]
              have hi := rv.ints
              refine PyProof.Rows.sorted_intsT hl hi (by rw [hi.length]; exact h64) fun out ns' h1 h2 h3 => ?_
              obtain ⟨ep, he'⟩ := PyProof.Rows.sortedAll_at s.heap its out
              have hlen : (ns'.map V.int).length ≤ sizeLine := by rw [List.length_map, h2.length_eq]; exact small64 h64
              exact ⟨.ref _, upd H (s.heap.objs.size + 1) (.lst (ns'.map V.int)), I.laid (t' := s.toks) (fun _ _ => PyProof.Rows.sortedAll_old) (Nat.le_succ _) ⟨hlen, out.toList, ep, vals_of_ints h1, he'⟩, rfl, q ns' _ h2 h3 (I.hok.fresh (Nat.le_succ _))⟩
        · exact hp.elim
      · exact hp.elim
    · exact hp.elim
  · exact hp.elim
theorem c_len : CallR X (.builtin "len") (rF X.K E bLen) := (call_len_str.or call_len_seq).weak fun xs H Q ⟨m, ws, S, rs, rv, hp⟩ => by
  unfold bLen at hp
  split at hp
  · split at hp
    · rename_i hl
      cases rv with
      | cons h1 h2 =>
        cases h2
        cases h1
        exact .inl ⟨_, rfl, Nat.le_trans hl (by decide), hp.ok rs _ (.int _)⟩
    · exact hp.elim
  · split at hp
    · rename_i zs e1
      cases rv with
      | cons h1 h2 =>
        cases h2
        obtain ⟨a, us, rfl, hq, hr⟩ := h1.seq rs e1
        exact .inr ⟨a, us, rfl, hq, by rw [hr.length]; exact hp.ok rs _ (.int _)⟩
    · exact hp.elim
  · exact hp.elim
theorem c_abs : CallR X (.builtin "abs") (rF X.K E bAbs) := call_abs.weak fun xs H Q ⟨m, ws, S, rs, rv, hp⟩ => by
  unfold bAbs at hp
  split at hp
  · cases rv with
    | cons h1 h2 =>
      cases h2
      cases h1
      exact ⟨_, rfl, hp.ok rs _ (.int _)⟩
  · exact hp.elim
theorem c_tuple : CallR X (.type "tuple") (rF X.K E bTuple) := call_tupleF.weak fun xs H Q ⟨m, ws, S, rs, rv, hp⟩ => by
  unfold bTuple at hp
  split at hp
  · split at hp
    · rename_i zs e1
      cases rv with
      | cons h1 h2 =>
        cases h2
        cases h1 with
        | tup q1 q2 =>
          simp only [seqOf, Option.some.injEq] at e1
          subst e1
          exact ⟨_, _, rfl, .inr ⟨q1.sq, hp.ok rs _ (.tup q1 q2)⟩⟩
        | lst q1 q2 =>
          simp only [seqOf, Option.some.injEq] at e1
          subst e1
          exact ⟨_, _, rfl, .inl ⟨q1.sq, fun l ob nl hc hd => hp m _ (rs.allocS nl) (rs.alloc nl) _ (newTup rs nl hc hd q2)⟩⟩
        | @scr a ns q1 =>
          simp only [seqOf, Option.some.injEq] at e1
          subst e1
          exact ⟨_, _, rfl, .inl ⟨q1.sq, fun l ob nl hc hd => hp m _ (rs.allocS nl) (rs.alloc nl) _ (newTup rs nl hc hd (repInts ns))⟩⟩
        | @mt k a l em =>
          obtain ⟨a', vs, e, hl, hr⟩ := RepW.list (w := .mt k) (ws := zs) rs (.mt em) (by
            simp only [seqOf] at e1
            simp only [listOf]
            exact e1)
          cases e
          exact ⟨_, _, rfl, .inl ⟨.inl (.inl hl), fun l ob nl hc hd => hp m _ (rs.allocS nl) (rs.alloc nl) _ (newTup rs nl hc hd hr)⟩⟩
        | _ => simp [seqOf] at e1
    · exact hp.elim
  · exact hp.elim
theorem c_list : CallR X (.type "list") (rF X.K E bList) := call_list_of.weak fun xs H Q ⟨m, ws, S, rs, rv, hp⟩ => by
  unfold bList at hp
  split at hp
  · split at hp
    · rename_i zs e1
      cases rv with
      | cons h1 h2 =>
        cases h2
        obtain ⟨a, us, rfl, hq, hr⟩ := h1.seq rs e1
        exact ⟨a, us, rfl, hq, fun l nl => hp m _ (rs.allocS nl) (rs.alloc nl) _ (newLst rs nl hr)⟩
    · exact hp.elim
  · exact hp.elim
theorem c_listN : CallR X (.type "list") (rF X.K E bListN) := call_list_of.weak fun xs H Q ⟨m, ws, S, rs, rv, hp⟩ => by
  unfold bListN at hp
  split at hp
  · split at hp
    · rename_i zs e1
      cases rv with
      | cons h1 h2 =>
        cases h2
        obtain ⟨a, us, rfl, hq, hr⟩ := h1.seq rs e1
        exact ⟨a, us, rfl, hq, fun l nl => hp _ _ (rs.pushS nl) (rs.push nl hr) _ (.mt (l := []) (by rw [← rs.len]; simp [Own.push]))⟩
    · exact hp.elim
  · exact hp.elim
theorem c_all (hc : X.calm = true) : CallR X (.builtin "all") (rF X.K E bAll) := (cr_all hc).weak fun xs H Q ⟨m, ws, S, rs, rv, hp⟩ => by
  unfold bAll at hp
  split at hp
  · split at hp
    · rename_i zs e1
      split at hp
      · rename_i bs e2
        cases rv with
        | cons h1 h2 =>
          cases h2
          obtain ⟨a, us, rfl, hq, hr⟩ := h1.list rs e1
          have ex := repBls hr e2
          subst ex
          exact ⟨a, bs, rfl, .inl (.inl hq), hp.ok rs _ (.bl _)⟩
      · exact hp.elim
    · exact hp.elim
  · exact hp.elim
theorem c_any (hc : X.calm = true) : CallR X (.builtin "any") (rF X.K E bAny) := (cr_any hc).weak fun xs H Q ⟨m, ws, S, rs, rv, hp⟩ => by
  unfold bAny at hp
  split at hp
  · split at hp
    · rename_i zs e1
      split at hp
      · rename_i bs e2
        cases rv with
        | cons h1 h2 =>
          cases h2
          obtain ⟨a, us, rfl, hq, hr⟩ := h1.list rs e1
          have ex := repBls hr e2
          subst ex
          exact ⟨a, bs, rfl, .inl (.inl hq), hp.ok rs _ (.bl _)⟩
      · exact hp.elim
    · exact hp.elim
  · exact hp.elim
theorem c_int : CallR X (.type "int") (rF X.K E bInt) := call_int1.weak fun xs H Q ⟨m, ws, S, rs, rv, hp⟩ => by
  unfold bInt at hp
  split at hp
  · cases rv with
    | cons h1 h2 =>
      cases h2
      cases h1
      exact .inl ⟨_, rfl, hp.ok rs _ (.int _)⟩
  · cases rv with
    | cons h1 h2 =>
      cases h2
      cases h1
      exact .inr ⟨_, rfl, hp.ok rs _ (.int _)⟩
  · exact hp.elim
/-- the place of the best -/
theorem best_ok {mx : Bool} {K : PySem.W.Frag} {m : Own} {H : Hp} {vs : List V} {zs : List W} {w : W} {d : PyData} {ds : List PyData} (r : RepWs K m H vs zs) (n : noLs zs = true) (e : datL zs = some (d :: ds)) {i : Nat} {v : V} (ei : vs[i]? = some v)
    (h : (d :: ds).getD i .none = if mx then PySem.W.maxD d ds else PySem.W.minD d ds) : RepW K m H v (ofD (if mx then PySem.W.maxD d ds else PySem.W.minD d ds)) := by
  obtain ⟨z, ez, rz⟩ := r.get' i v ei
  obtain ⟨d', h1, h2⟩ := datL_get e ez
  rw [List.getD_eq_getElem?_getD, h2] at h
  have h : d' = _ := h
  rw [← h, ofD_dat (noLs_get n ez) h1]
  exact rz
theorem foldl_min_mem : ∀ (ns : List Int) (n : Int), ns.foldl min n ∈ n :: ns ∧ ∀ y ∈ n :: ns, ns.foldl min n ≤ y
  | [], n => by simp
  | k :: r, n => by
    obtain ⟨h1, h2⟩ := foldl_min_mem r (min n k)
    rw [List.foldl_cons]
    refine ⟨?_, fun y hy => ?_⟩
    · rcases List.mem_cons.mp h1 with h | h
      · rw [h]
        rcases Int.le_total n k with q | q
        · rw [Int.min_eq_left q]; exact List.mem_cons_self
        · rw [Int.min_eq_right q]; exact List.mem_cons_of_mem _ List.mem_cons_self
      · exact List.mem_cons_of_mem _ (List.mem_cons_of_mem _ h)
    · have h3 := h2 _ List.mem_cons_self
      rcases List.mem_cons.mp hy with rfl | hy
      · exact Int.le_trans h3 (Int.min_le_left _ _)
      · rcases List.mem_cons.mp hy with rfl | hy
        · exact Int.le_trans h3 (Int.min_le_right _ _)
        · exact h2 y (List.mem_cons_of_mem _ hy)
theorem foldl_max_mem : ∀ (ns : List Int) (n : Int), ns.foldl max n ∈ n :: ns ∧ ∀ y ∈ n :: ns, y ≤ ns.foldl max n
  | [], n => by simp
  | k :: r, n => by
    obtain ⟨h1, h2⟩ := foldl_max_mem r (max n k)
    rw [List.foldl_cons]
    refine ⟨?_, fun y hy => ?_⟩
    · rcases List.mem_cons.mp h1 with h | h
      · rw [h]
        rcases Int.le_total n k with q | q
        · rw [Int.max_eq_right q]; exact List.mem_cons_of_mem _ List.mem_cons_self
        · rw [Int.max_eq_left q]; exact List.mem_cons_self
      · exact List.mem_cons_of_mem _ (List.mem_cons_of_mem _ h)
    · have h3 := h2 _ List.mem_cons_self
      rcases List.mem_cons.mp hy with rfl | hy
      · exact Int.le_trans (Int.le_max_left _ _) h3
      · rcases List.mem_cons.mp hy with rfl | hy
        · exact Int.le_trans (Int.le_max_right _ _) h3
        · exact h2 y (List.mem_cons_of_mem _ hy)
theorem dat_ints : ∀ (zs : List W) (ns : List Int), intsOf zs = some ns → datL zs = some (ns.map PyData.int)
  | [], _, h => by
    simp only [intsOf, Option.some.injEq] at h
    subst h
    rfl
  | .int i :: r, _, h => by
    simp only [intsOf, Option.map_eq_some_iff] at h
    obtain ⟨ns, h1, rfl⟩ := h
    simp only [datL, dat, dat_ints r ns h1]
    rfl
  | .non :: _, _, h => by simp [intsOf] at h
  | .bl _ :: _, _, h => by simp [intsOf] at h
  | .str _ :: _, _, h => by simp [intsOf] at h
  | .tup _ :: _, _, h => by simp [intsOf] at h
  | .lst _ :: _, _, h => by simp [intsOf] at h
  | .scr _ :: _, _, h => by simp [intsOf] at h
  | .mt _ :: _, _, h => by simp [intsOf] at h
  | .obj _ :: _, _, h => by simp [intsOf] at h
theorem alike_intsB (ns : List Int) : PySem.W.AlikeAll (ns.map PyData.int) := ⟨fun x hx y hy => by
  obtain ⟨a, _, rfl⟩ := List.mem_map.mp hx
  obtain ⟨b, _, rfl⟩ := List.mem_map.mp hy
  rfl, fun x hx e => by
  obtain ⟨a, _, rfl⟩ := List.mem_map.mp hx
  cases e⟩
/-- best over data: what bestD says, as minD, maxD over the data -/
theorem bestD_ok {mx : Bool} {K : PySem.W.Frag} {m : Own} {H : Hp} {vs : List V} {zs : List W} {w : W} (r : RepWs K m H vs zs) (h : bestD mx zs = some w) :
    ∃ d ds, datL zs = some (d :: ds) ∧ PySem.W.AlikeAll (d :: ds) ∧ PyData.depthAll (d :: ds) ≤ 60 ∧ ∀ i v, vs[i]? = some v → ((d :: ds).getD i .none = if mx then PySem.W.maxD d ds else PySem.W.minD d ds) → RepW K m H v w := by
  unfold bestD at h
  split at h
  · cases h
  · rename_i n ns e
    cases h
    have e1 := dat_ints _ _ e
    refine ⟨.int n, ns.map .int, e1, alike_intsB (n :: ns), ?_, fun i v ei hd => ?_⟩
    · have : PyData.depthAll ((n :: ns).map .int) = 0 := PySem.W.depth_ints (n :: ns)
      rw [List.map_cons] at this
      omega
    · rw [PySem.W.maxD_ints, PySem.W.minD_ints] at hd
      have ev := repLits r e
      subst ev
      rw [List.getElem?_map] at ei
      cases q : (n :: ns)[i]? with
      | none => rw [q] at ei; cases ei
      | some z =>
        rw [q] at ei
        cases ei
        have hd2 : (PyData.int z) = (if mx = true then PyData.int (ns.foldl max n) else PyData.int (ns.foldl min n)) := by
          rw [← hd, ← List.map_cons, List.getD_eq_getElem?_getD, List.getElem?_map, q]
          rfl
        cases mx with
        | true =>
          have : z = ns.foldl max n := PyData.int.inj hd2
          rw [this]
          exact .int _
        | false =>
          have : z = ns.foldl min n := PyData.int.inj hd2
          rw [this]
          exact .int _
  · split at h
    · rename_i d ds e
      split at h
      · rename_i hc
        rw [Bool.and_eq_true, Bool.and_eq_true, decide_eq_true_eq] at hc
        cases h
        exact ⟨d, ds, e, alikeB_ok hc.1.2, hc.2, fun i v ei hd => best_ok (w := .non) r hc.1.1 e ei hd⟩
      · cases h
    · cases h
theorem c_min (hc : X.calm = true) (hu : X.A.units + 64 < cLine) : CallR X (.builtin "min") (rF X.K E bMin) := by
  intro pins s σ H vs us Q I r ⟨m, ws, S, rs, rv, hp⟩
  unfold bMin at hp
  split at hp
  · split at hp
    · rename_i zs e1
      split at hp
      · rename_i w e2
        cases rv with
        | cons h1 h2 =>
          cases h2
          obtain ⟨a, xs, rfl, hq, hr⟩ := h1.seq rs e1
          obtain ⟨d, ds, e3, al, dp, best⟩ := bestD_ok hr e2
          rw [Vals.ref1 r]
          have fin : ∀ (i : Nat) (its : List Value) (v : Value) (h' : Heap) (tk : Nat), Vals xs its → its[i]? = some v → (d :: ds).getD i .none = PySem.W.minD d ds → (∀ b o, s.heap.get? b = some o → h'.get? b = some o) → EP X pins σ Q v { s with heap := h', toks := tk } := fun i its v h' tk rv ei hd hk => by
            have hi : i < xs.length := by rw [rv.length]; exact (List.getElem?_eq_some_iff.mp ei).1
            obtain ⟨u, eu, ru⟩ := rv.get (List.getElem?_eq_getElem hi)
            rw [ei] at eu
            cases eu
            exact ⟨xs[i], H, I.kept hk, ru, hp.ok rs _ (best i _ (List.getElem?_eq_getElem hi) hd)⟩
          rcases hq with hq | hq
          · obtain ⟨its, rv, hl, _⟩ := I.list hq
            obtain ⟨as, hR⟩ := Dp.readsAll I (d :: ds) xs its (hr.dp e3) rv
            exact PySem.min_list_ix (I.ok.hd hc) hl.isList hR al (by omega) fun i v h' tk ei hd hk => fin i its v h' tk rv (by simpa using ei) hd hk
          · obtain ⟨its, rv, hl, _⟩ := I.tuple hq
            obtain ⟨as, hR⟩ := Dp.readsAll I (d :: ds) xs its (hr.dp e3) rv
            exact PySem.min_tuple_ix (I.ok.hd hc) hl hR al (by omega) fun i v h' tk ei hd hk => fin i its v h' tk rv (by simpa using ei) hd hk
      · exact hp.elim
    · exact hp.elim
  · cases rv with
    | cons h1 h2 => cases h2 with
      | cons h3 h4 =>
        cases h4
        cases h1
        cases h3
        exact call_min2 hc pins s σ H _ us Q I r ⟨_, _, rfl, hp.ok rs _ (.int _)⟩
  · exact hp.elim
theorem c_max (hc : X.calm = true) (hu : X.A.units + 64 < cLine) : CallR X (.builtin "max") (rF X.K E bMax) := by
  intro pins s σ H vs us Q I r ⟨m, ws, S, rs, rv, hp⟩
  unfold bMax at hp
  split at hp
  · split at hp
    · rename_i zs e1
      split at hp
      · rename_i w e2
        cases rv with
        | cons h1 h2 =>
          cases h2
          obtain ⟨a, xs, rfl, hq, hr⟩ := h1.seq rs e1
          obtain ⟨d, ds, e3, al, dp, best⟩ := bestD_ok hr e2
          rw [Vals.ref1 r]
          have fin : ∀ (i : Nat) (its : List Value) (v : Value) (h' : Heap) (tk : Nat), Vals xs its → its[i]? = some v → (d :: ds).getD i .none = PySem.W.maxD d ds → (∀ b o, s.heap.get? b = some o → h'.get? b = some o) → EP X pins σ Q v { s with heap := h', toks := tk } := fun i its v h' tk rv ei hd hk => by
            have hi : i < xs.length := by rw [rv.length]; exact (List.getElem?_eq_some_iff.mp ei).1
            obtain ⟨u, eu, ru⟩ := rv.get (List.getElem?_eq_getElem hi)
            rw [ei] at eu
            cases eu
            exact ⟨xs[i], H, I.kept hk, ru, hp.ok rs _ (best i _ (List.getElem?_eq_getElem hi) hd)⟩
          rcases hq with hq | hq
          · obtain ⟨its, rv, hl, _⟩ := I.list hq
            obtain ⟨as, hR⟩ := Dp.readsAll I (d :: ds) xs its (hr.dp e3) rv
            exact PySem.max_list_ix (I.ok.hd hc) hl.isList hR al (by omega) fun i v h' tk ei hd hk => fin i its v h' tk rv (by simpa using ei) hd hk
          · obtain ⟨its, rv, hl, _⟩ := I.tuple hq
            obtain ⟨as, hR⟩ := Dp.readsAll I (d :: ds) xs its (hr.dp e3) rv
            exact PySem.max_tuple_ix (I.ok.hd hc) hl hR al (by omega) fun i v h' tk ei hd hk => fin i its v h' tk rv (by simpa using ei) hd hk
      · exact hp.elim
    · exact hp.elim
  · cases rv with
    | cons h1 h2 => cases h2 with
      | cons h3 h4 =>
        cases h4
        cases h1
        cases h3
        exact call_max2 hc pins s σ H _ us Q I r ⟨_, _, rfl, hp.ok rs _ (.int _)⟩
  · exact hp.elim
end
/-! ### isinstance -/
inductive Cl where
  | int | bool | str | tuple | list
def Cl.nm : Cl → String
  | .int => "int"
  | .bool => "bool"
  | .str => "str"
  | .tuple => "tuple"
  | .list => "list"
def tyNm : W → Option String
  | .non => some "NoneType"
  | .bl _ => some "bool"
  | .int _ => some "int"
  | .str _ => some "str"
  | .tup _ => some "tuple"
  | .lst _ => some "list"
  | _ => none
def isi : W → Cl → Option Bool
  | .non, _ => some false
  | .bl _, .int => some true
  | .bl _, .bool => some true
  | .bl _, _ => some false
  | .int _, .int => some true
  | .int _, _ => some false
  | .str _, .str => some true
  | .str _, _ => some false
  | .tup _, .tuple => some true
  | .tup _, _ => some false
  | .lst _, .list => some true
  | .lst _, _ => some false
  | _, _ => none
theorem kits : ∀ t ∈ ["NoneType", "bool", "int", "str", "tuple", "list"], ∀ c ∈ ["int", "bool", "str", "tuple", "list"], kitB t c = some (decide (t = c) || (decide (t = "bool") && decide (c = "int"))) := by decide +kernel
def bIsi (c : Cl) (x : W) (S : Store) : Res W := match isi x c with
  | some b => .ok (.bl b) S
  | none => .bad
section
variable {X : Cx} {E : Str → Hp → Prop} {e : Expr} {f : EF} {p p2 pos : Pos}
theorem ty_of {K : PySem.W.Frag} {m : Own} {H : Hp} {v : V} {w : W} {c : Cl} {b : Bool} (r : RepW K m H v w) (h : isi w c = some b) : ∃ t, TyX K H v (.type t) ∧ kitB t c.nm = some b := by
  have hc : c.nm ∈ ["int", "bool", "str", "tuple", "list"] := by cases c <;> decide
  cases r with
  | non => exact ⟨"NoneType", .base .non, by rw [kits _ (by decide) _ hc]; cases c <;> simp [isi] at h <;> subst h <;> rfl⟩
  | bl z => exact ⟨"bool", .base (.bl z), by rw [kits _ (by decide) _ hc]; cases c <;> simp [isi] at h <;> subst h <;> rfl⟩
  | int z => exact ⟨"int", .base (.int z), by rw [kits _ (by decide) _ hc]; cases c <;> simp [isi] at h <;> subst h <;> rfl⟩
  | str z => exact ⟨"str", .base (.str z), by rw [kits _ (by decide) _ hc]; cases c <;> simp [isi] at h <;> subst h <;> rfl⟩
  | tup q1 q2 =>
    refine ⟨"tuple", ?_, by rw [kits _ (by decide) _ hc]; cases c <;> simp [isi] at h <;> subst h <;> rfl⟩
    rcases q1 with ⟨⟨o, q, _⟩, _⟩ | ⟨o, its, n, q, qc, _⟩
    · exact .fTuple q
    · exact .kTuple q qc
  | lst q1 q2 => exact ⟨"list", .base (.lst q1.1), by rw [kits _ (by decide) _ hc]; cases c <;> simp [isi] at h <;> subst h <;> rfl⟩
  | _ => simp [isi] at h
theorem ev_isi (c : Cl) {x : Str} (he : PEv X E e f) (hg : Gl X "isinstance") (hm : X.mg "isinstance" = none) (hx : Gl X x) (hmx : X.mg x = none) (hb : bootBuiltins x = some (.type c.nm)) (hn : x ≠ "__name__" := by decide) (hdb : (x == ("__debug__" : Str)) = false := by decide)
    (h1 : starEach [e, .Name x p2] X.env = [(false, eval e X.env), (false, eval (.Name x p2) X.env)] := by rfl) (h2 : starEach [.Name x p2] X.env = [(false, eval (.Name x p2) X.env)] := by rfl) (hpl : (backTo pos (starEach [.Name x p2] X.env)).any (·.1) = false := by rfl) :
    PEv X E (.Call (.Name "isinstance" p) [e, .Name x p2] [] pos) (eUn (bIsi c) f) := (pe_callB call_isi hg hm (by decide +kernel) (pa_cons he (pa_cons (pe_bltn (v := .ty c.nm) hx hmx hb rfl hn hdb) pa_nil h2) h1) (by decide) (by decide) h1 hpl).weak fun σ H Q ⟨m, d, S, he, hs, hp⟩ => by
  refine ⟨m, d, S, he, hs, Post.bind hp fun z S1 m1 H1 s1 r1 h1 v rv => ?_⟩
  unfold bIsi at h1
  split at h1
  · rename_i b e
    obtain ⟨t, ht, hk⟩ := ty_of rv e
    exact ⟨v, .ty c.nm, .type t, .type c.nm, b, rfl, .ty _, ht, kit_ty hk, h1.ok r1 _ (.bl b)⟩
  · exact h1.elim
end
end Iv
end
section
set_option maxHeartbeats 2000000
set_option maxRecDepth 100000
namespace HT
open PySem PySem.Spec PyProof.Rows
section
variable {prog : Program} {w : World} {A : Around} {E : Value → Shared → Prop} {s : Shared}
theorem sliceApplied_rev {sl : Addr} {vl vu vs : Value} {n : Nat} {Q : Int × Int × Nat → Shared → Prop} (hs : s.heap.IsSliceOf sl vl vu vs) (pl : IsPart vl none) (pu : IsPart vu none) (ps : IsPart vs (some (-1)))
    (h : Q ((n : Int) - 1, -1, n) s) : wpAny (model prog w) A (Builtin.Slice.sliceApplied (.ref sl) (pure (n : Int))) Q E s := by
  obtain ⟨os, hos, hcs, hds⟩ := id hs
  unfold Builtin.Slice.sliceApplied Builtin.Slice.sliceFields
  refine wpAny_bind (wpAny_bind (wpAny_field hos hds (x := vl) rfl (wpAny_bind (wpAny_field hos hds (x := vu) rfl (wpAny_bind (wpAny_field hos hds (x := vs) rfl (wpAny_pure ?_)))))))
  refine wpAny_bind (slicePart_ ps ?_)
  show wpAny _ _ (if ((-1 : Int) == 0) = true then _ else _) _ _ s
  rw [if_neg (by decide)]
  refine wpAny_bind (slicePart_ pl (wpAny_bind (slicePart_ pu (wpAny_bind (wpAny_pure ?_)))))
  show wpAny _ _ (match Builtin.Slice.sliceAdjust none none (-1) (n : Int) with | (lo, hi) => pure (lo, (-1 : Int), Builtin.Slice.slicePlaces lo hi (-1))) _ _ s
  have e1 : Builtin.Slice.sliceAdjust none none (-1) (n : Int) = ((n : Int) - 1, -1) := by
    unfold Builtin.Slice.sliceAdjust
    simp
  have e2 : Builtin.Slice.slicePlaces ((n : Int) - 1) (-1) (-1) = n := by
    unfold Builtin.Slice.slicePlaces
    simp
    omega
  rw [e1]
  show wpAny _ _ (pure ((n : Int) - 1, (-1 : Int), Builtin.Slice.slicePlaces ((n : Int) - 1) (-1) (-1))) _ _ s
  rw [e2]
  exact wpAny_pure h
theorem pick_rev (xs : Array Value) : ((List.range xs.size).filterMap fun (k : Nat) => xs[((xs.size : Int) - 1 + (k : Int) * (-1)).toNat]?).toArray = xs.toList.reverse.toArray := by
  rw [← PySem.W.krv_pick]
  unfold slicePick
  rw [PySem.W.krv_bounds]
  show _ = ((sliceRange ((xs.size : Int) - 1) (-1) (-1)).filterMap (xs[·]?)).toArray
  rw [PySem.W.krv_sliceRange, List.filterMap_map]
  congr 2
  funext k
  show xs[((xs.size : Int) - 1 + (k : Int) * (-1)).toNat]? = xs[xs.size - 1 - k]?
  congr 1
  omega
theorem getItem_tuple_rev {t sl : Addr} {items : Array Value} {vl vu vs : Value} {Q : Value → Shared → Prop} (ht : IsTup s.heap t items) (hs : s.heap.IsSliceOf sl vl vu vs) (pl : IsPart vl none) (pu : IsPart vu none) (ps : IsPart vs (some (-1)))
    (h : Q (.ref s.heap.objs.size) { s with heap := s.heap.push { cls := .type "tuple", data := .seq items.toList.reverse.toArray } })
    (hsz : items.size ≤ sizeLine) : wpAny (model prog w) A (getItem (.ref t) (.ref sl)) Q E s := by
  have htake : sizeOk (.seq items.toList.reverse.toArray) := by
    show items.toList.reverse.toArray.size ≤ sizeLine
    rw [List.size_toArray, List.length_reverse, Array.length_toList]
    exact hsz
  obtain ⟨os, hos, hcs, hds⟩ := id hs
  have hTs : s.TypeIs (.ref sl) "slice" := ⟨os, hos, hcs⟩
  unfold getItem
  try with_reducible refine wpAny_holding ?_
  first | refine wpAny_bind (wpAny_pure ?_) | skip
  refine wpAny_bind (wpAny_sequenceKey ht.typeIs (by decide) ?_)
  refine wpAny_bind (wpAny_callSpecial?_slot (name := Str.ofString "__getitem__") ht.typeIs PyProof.Rows.slot_tuple_getitem
    (wpAny_call_entry PyProof.Rows.slot_tuple_getitem ht.typeIs entry_tuple_getitem ?_ (args_tuple_getitem _ _)))
  show wpAny _ _ (Builtin.Tuple.tupleItemsOf (.ref t) >>= _) _ _ s
  refine wpAny_bind (tupleItemsOf_ ht ?_)
  refine wpAny_bind (wpAny_typeOf hTs ?_)
  rw [if_pos (by decide)]
  refine wpAny_bind (sliceApplied_rev hs pl pu ps ?_)
  have hno : ¬ ((((items.size : Int) - 1) == 0 && (-1 : Int) == 1 && items.size == items.size) = true) := by
    intro q
    rw [Bool.and_eq_true, Bool.and_eq_true] at q
    exact absurd q.1.2 (by decide)
  show wpAny _ _ (if (((items.size : Int) - 1) == 0 && (-1 : Int) == 1 && items.size == items.size) = true then _ else _) _ _ s
  rw [if_neg hno, pick_rev]
  first
    | exact wpAny_bind (m := Builtin.Tuple.tupleExact _) (wpAny_newObj_type (wpAny_pure ⟨_, rfl, wpAny_pure h⟩) htake)
    | exact wpAny_bind (m := Builtin.Tuple.tupleExact _) (wpAny_newObj_type (wpAny_bind (wpAny_pure (wpAny_pure ⟨_, rfl, wpAny_pure h⟩))) htake)
    | exact wpAny_bind (wpAny_bind (m := Builtin.Tuple.tupleExact _) (wpAny_newObj_type (wpAny_pure (wpAny_pure ⟨_, rfl, wpAny_pure h⟩)) htake))
    | exact wpAny_bind (wpAny_bind (m := Builtin.Tuple.tupleExact _) (wpAny_newObj_type (wpAny_pure ⟨_, rfl, wpAny_pure h⟩) htake))
end
end HT
namespace L2
open PySem PySem.Spec PyProof.Rows
section
variable {X : Cx}
/-- x[::-1] of a list or a tuple -/
def tRevA (K : PySem.W.Frag) (te : TE) : TE := fun σ H Q => te σ H fun x H1 => (∃ a xs, x = .ref a ∧ SqL K H1 a xs ∧ ∀ p, H1 p = none → Q (.ref p) (upd H1 p (.lst xs.reverse))) ∨ (∃ a xs, x = .ref a ∧ SqT K H1 a xs ∧ NewT H1 xs.reverse Q)
theorem pe_revA {e : Expr} {te : TE} {k : Nat} {p1 p2 p3 pos : Pos} (he : PE X e te) : PE X (.Subscript e (.Slice none none (some (.UnaryOp .USub (.Constant (.int 1) k p1) p2)) p3) pos) (tRevA X.K te) := by
  refine ⟨fun pins s σ H Q I h => ?_⟩
  refine Subscript_ (thn (he.run pins s σ H _ I h) fun v s1 ⟨x, H1, I1, r1, q1⟩ => ?_)
  have hst : PO X (some (.UnaryOp .USub (.Constant (.int 1) k p1) p2)) (tPart (tUn (rU fun i => .int (-i)) (tC (.int 1)))) := po_some (pe_un un_neg pe_int)
  refine wpAny_Slice (thn (po_none.run pins s1 σ H1 (fun o H2 => o = none ∧ H2 = H1) I1 ⟨rfl, rfl⟩) fun vl s2 ⟨l, H2, I2, pl, el, e2⟩ => ?_)
  subst el e2
  refine thn (po_none.run pins s2 σ H2 (fun o H3 => o = none ∧ H3 = H2) I2 ⟨rfl, rfl⟩) fun vu s3 ⟨u, H3, I3, pu, eu, e3⟩ => ?_
  subst eu e3
  refine thn (hst.run pins s3 σ H3 (fun o H4 => o = some (-1) ∧ H4 = H3) I3 ⟨1, rfl, -1, rfl, rfl, rfl⟩) fun vs s4 ⟨o, H4, I4, ps, eo, e4⟩ => ?_
  subst eo e4
  have I5 : Inv X pins σ H4 { s4 with heap := s4.heap.push { cls := .type "slice", data := .fields #[vl, vu, vs] } } := I4.kept (t' := s4.toks) fun b ob q => Heap.get?_push_of_some _ q
  rcases q1 with ⟨a, xs, ex, hx, q⟩ | ⟨a, xs, ex, hx, q⟩
  · subst ex
    cases r1
    obtain ⟨its, r, ht, hz⟩ := I5.list hx
    have hlen := r.length
    show wpAny (model X.prog X.w) X.A (subscriptTail e (.Slice none none (some (.UnaryOp .USub (.Constant (.int 1) k p1) p2)) p3) (.ref a) (.ref s4.heap.objs.size)) (EP X pins σ Q) X.xe { s4 with heap := s4.heap.push { cls := .type "slice", data := .fields #[vl, vu, vs] } }
    refine tail_any (ops := [.ref a, .ref s4.heap.objs.size]) ht.isList.typeIs (PySem.slot_list_getitem.lookup) ?_ (by with_unfolding_all rfl)
    refine wpAny_getItem_list_slice ht.isList (Heap.IsSliceOf.new _ vl vu vs) pl pu ps (by decide) ?_ (by rw [List.size_toArray]; omega)
    rw [PySem.W.krv_pick]
    refine ⟨.ref _, _, I5.laid (t' := s4.toks) (o := .lst xs.reverse) (fun b ob q => Heap.get?_push_of_some _ q) (Nat.le_refl _) ?_, rfl, q _ (I5.hok.fresh (Nat.le_refl _))⟩
    exact ⟨by rw [List.length_reverse]; exact hz, _, 0, r.reverse, Heap.get?_push_size _ rfl⟩
  · subst ex
    cases r1
    obtain ⟨its, r, ht, hz⟩ := I5.tuple hx
    have hlen := r.length
    show wpAny (model X.prog X.w) X.A (subscriptTail e (.Slice none none (some (.UnaryOp .USub (.Constant (.int 1) k p1) p2)) p3) (.ref a) (.ref s4.heap.objs.size)) (EP X pins σ Q) X.xe { s4 with heap := s4.heap.push { cls := .type "slice", data := .fields #[vl, vu, vs] } }
    refine tail_any (ops := [.ref a, .ref s4.heap.objs.size]) ht.typeIs (PyProof.Rows.slot_tuple_getitem.lookup) ?_ (by with_unfolding_all rfl)
    refine HT.getItem_tuple_rev ht (Heap.IsSliceOf.new _ vl vu vs) pl pu ps ?_ (by rw [List.size_toArray]; omega)
    exact laidT I5 (by rw [List.length_reverse]; exact hz) r.reverse q
end
end L2
namespace Iv
open PySem L2
/-! ### x[::-1] -/
def wRev (x : W) (S : Store) : Res W := match x with
  | .tup ws => .ok (.tup ws.reverse) S
  | x => match listOf x S with
    | some ws => .ok (.lst ws.reverse) S
    | none => .bad
section
variable {X : Cx} {E : Str → Hp → Prop} {e : Expr} {f : EF} {p p2 pos : Pos}
theorem RepWs.rev {K : PySem.W.Frag} {m : Own} {H : Hp} : ∀ {vs : List V} {ws : List W}, RepWs K m H vs ws → RepWs K m H vs.reverse ws.reverse
  | _, _, .nil => .nil
  | _, _, .cons h r => by
    rw [List.reverse_cons, List.reverse_cons]
    exact r.rev.append (.cons h .nil)
theorem ev_rev {k : Nat} {p1 p2 p3 : Pos} (he : PEv X E e f) : PEv X E (.Subscript e (.Slice none none (some (.UnaryOp .USub (.Constant (.int 1) k p1) p2)) p3) pos) (eUn wRev f) := (pe_revA he).weak fun σ H Q ⟨m, d, S, he, hs, hp⟩ => by
  refine ⟨m, d, S, he, hs, Post.bind hp fun x S1 m1 H1 s1 r1 h1 v rv => ?_⟩
  unfold wRev at h1
  split at h1
  · cases rv with
    | tup q1 q2 => exact .inr ⟨_, _, rfl, q1.sq, fun p ob np hc hd => h1 m1 _ (r1.allocS np) (r1.alloc np) _ (newTup r1 np hc hd q2.rev)⟩
  · split at h1
    · rename_i ws e1
      obtain ⟨a, vs, rfl, ha, hr⟩ := rv.list r1 e1
      exact .inl ⟨a, vs, rfl, .inl (.inl ha), fun p np => h1 m1 _ (r1.allocS np) (r1.alloc np) _ (newLst r1 np hr.rev)⟩
    · exact h1.elim
end
/-! ### methods of lists -/
/-- o.m(a, ..) of a list -/
def eLm (o : W → List W → Store → Res W) (f : EF) (a : AF) : EF := fun d S => (f d S).bind fun x S1 => if (listOf x S1).isSome then (a d S1).bind fun xs S2 => o x xs S2 else .bad
def rM (K : PySem.W.Frag) (E : Str → Hp → Prop) (o : W → List W → Store → Res W) : V → List V → Hp → VK → Prop := fun x xs H Q => ∃ m wx ws S, RepS K m H S ∧ RepW K m H x wx ∧ RepWs K m H xs ws ∧ Post K E m H (o wx ws S) (CV K Q)
def mAppend (x : W) (ws : List W) (S : Store) : Res W := match x, ws with
  | .mt k, [w] => match S[k]? with
    | some (.L zs) => if zs.length < 100000 then .ok .non (S.set k (.L (zs ++ [w]))) else .bad
    | _ => .bad
  | _, _ => .bad
def mPop (x : W) (ws : List W) (S : Store) : Res W := match x, ws with
  | .mt k, [] => match S[k]? with
    | some (.L zs) => match zs[zs.length - 1]? with
      | some y => .ok y (S.set k (.L zs.dropLast))
      | none => .bad
    | _ => .bad
  | _, _ => .bad
def mPopAt (x : W) (ws : List W) (S : Store) : Res W := match x, ws with
  | .mt k, [.int i] => match S[k]? with
    | some (.L zs) => if 0 ≤ i ∧ i < zs.length ∧ i < 2 ^ 63 then (match zs[i.toNat]? with
      | some y => .ok y (S.set k (.L (zs.eraseIdx i.toNat)))
      | none => .bad) else .bad
    | _ => .bad
  | _, _ => .bad
section
variable {X : Cx} {E : Str → Hp → Prop} {o e : Expr} {es : List Expr} {f : EF} {fa : AF} {apos cpos : Pos} {name : Str} {id : String} {g : W → List W → Store → Res W}
theorem lm_weak {r : V → List V → Hp → VK → Prop} {K : PySem.W.Frag} {σ : L2.St} {H : Hp} {Q : VK} (hr : ∀ x xs H Q, rM K E g x xs H Q → r x xs H Q) (q : rE K E (eLm g f fa) σ H Q) : tBM K "list" r (rE K E f) (rA K E fa) σ H Q := by
  obtain ⟨m, d, S, he, hs, hp⟩ := q
  refine ⟨m, d, S, he, hs, Post.bind hp fun x S1 m1 H1 s1 r1 h1 v rv => ?_⟩
  split at h1
  · rename_i hl
    obtain ⟨ws, hw⟩ := Option.isSome_iff_exists.mp hl
    obtain ⟨a, vs, rfl, ha, hr'⟩ := rv.list r1 hw
    refine ⟨.inl ⟨rfl, vs, .inl (.inl ha)⟩, m1, d, S1, he.step s1.g, r1, Post.bind h1 fun xs S2 m2 H2 s2 r2 h2 us ru => ?_⟩
    exact hr _ _ _ _ ⟨m2, x, xs, S2, r2, rv.step s2.g, ru, h2⟩
  · exact h1.elim
theorem lm_weak0 {r : V → List V → Hp → VK → Prop} {K : PySem.W.Frag} {σ : L2.St} {H : Hp} {Q : VK} (hr : ∀ x xs H Q, rM K E g x xs H Q → r x xs H Q) (q : rE K E (eLm g f aNil) σ H Q) : tBM0 K "list" r (rE K E f) σ H Q := by
  obtain ⟨m, d, S, he, hs, hp⟩ := q
  refine ⟨m, d, S, he, hs, Post.bind hp fun x S1 m1 H1 s1 r1 h1 v rv => ?_⟩
  split at h1
  · rename_i hl
    obtain ⟨ws, hw⟩ := Option.isSome_iff_exists.mp hl
    obtain ⟨a, vs, rfl, ha, hr'⟩ := rv.list r1 hw
    exact ⟨.inl ⟨rfl, vs, .inl (.inl ha)⟩, hr _ _ _ _ ⟨m1, x, [], S1, r1, rv, .nil, h1⟩⟩
  · exact h1.elim
/-- a changeable list at hand -/
theorem RepW.mtl {K : PySem.W.Frag} {m : Own} {H : Hp} {S : Store} {v : V} {k : Nat} {zs : List W} (rs : RepS K m H S) (r : RepW K m H v (.mt k)) (e : S[k]? = some (.L zs)) : ∃ a l vs, v = .ref a ∧ m.ms[k]? = some (a :: l) ∧ H a = some (.lst vs) ∧ RepWs K m H vs zs := by
  cases r with
  | @mt k a l em =>
    obtain ⟨a', l', em', hl, vs, hH, hr⟩ := rs.obj k _ e
    rw [em] at em'
    cases em'
    exact ⟨a, l, vs, rfl, em, hH, hr⟩
theorem ap_ok {K : PySem.W.Frag} (x : V) (xs : List V) (H : Hp) (Q : VK) (q : rM K E mAppend x xs H Q) : rAppend x xs H Q := by
  obtain ⟨m, wx, ws, S, rs, rx, rw', hp⟩ := q
  unfold mAppend at hp
  split at hp
  · split at hp
    · rename_i zs e
      split at hp
      · rename_i hl
        obtain ⟨a, l, vs, rfl, em, hH, hr⟩ := rx.mtl rs e
        cases rw' with
        | cons q1 q2 =>
          cases q2
          refine ⟨a, vs, _, rfl, rfl, hH, by rw [hr.length]; exact Nat.lt_of_lt_of_le hl (by decide), ?_⟩
          exact hp m _ (rs.writeS em) (rs.write em e (hr.append (.cons q1 .nil))) _ .non
      · exact hp.elim
    · exact hp.elim
  · exact hp.elim
theorem pop_ok {K : PySem.W.Frag} (x : V) (xs : List V) (H : Hp) (Q : VK) (q : rM K E mPop x xs H Q) : rPop x xs H Q := by
  obtain ⟨m, wx, ws, S, rs, rx, rw', hp⟩ := q
  unfold mPop at hp
  split at hp
  · split at hp
    · rename_i zs e
      split at hp
      · rename_i y ey
        obtain ⟨a, l, vs, rfl, em, hH, hr⟩ := rx.mtl rs e
        cases rw'
        obtain ⟨v, ev, rv⟩ := hr.get _ _ ey
        refine ⟨a, vs, v, rfl, rfl, hH, by rw [hr.length]; exact ev, ?_⟩
        have hd : RepWs K m H vs.dropLast zs.dropLast := by
          rw [List.dropLast_eq_take, List.dropLast_eq_take, hr.length]
          exact hr.take _
        exact hp m _ (rs.writeS em) (rs.write em e hd) _ (rv.step (rs.writeS em).g)
      · exact hp.elim
    · exact hp.elim
  · exact hp.elim
theorem RepWs.erase {K : PySem.W.Frag} {m : Own} {H : Hp} : ∀ {vs : List V} {ws : List W}, RepWs K m H vs ws → ∀ n, RepWs K m H (vs.eraseIdx n) (ws.eraseIdx n)
  | _, _, .nil, _ => .nil
  | _, _, .cons h r, 0 => r
  | _, _, .cons h r, n + 1 => .cons h (r.erase n)
theorem popat_ok {K : PySem.W.Frag} (x : V) (xs : List V) (H : Hp) (Q : VK) (q : rM K E mPopAt x xs H Q) : rPopAt x xs H Q := by
  obtain ⟨m, wx, ws, S, rs, rx, rw', hp⟩ := q
  unfold mPopAt at hp
  split at hp
  · split at hp
    · rename_i zs e
      split at hp
      · rename_i hl
        split at hp
        · rename_i y ey
          obtain ⟨a, l, vs, rfl, em, hH, hr⟩ := rx.mtl rs e
          cases rw' with
          | cons q1 q2 =>
            cases q2
            cases q1
            obtain ⟨v, ev, rv⟩ := hr.get _ _ ey
            refine ⟨a, vs, _, _, v, rfl, rfl, hH, by omega, hl.2.2, seqIndex_of hl.1 (by rw [hr.length]; exact hl.2.1), ev, ?_⟩
            exact hp m _ (rs.writeS em) (rs.write em e (hr.erase _)) _ (rv.step (rs.writeS em).g)
        · exact hp.elim
      · exact hp.elim
    · exact hp.elim
  · exact hp.elim
theorem ev_lm {r : V → List V → Hp → VK → Prop} (slot : Slot "list" name id) (hty : typeOf (.builtin id) = pure (.type "method_descriptor")) (hm : MtR X id r) (hr : ∀ x xs H Q, rM X.K E g x xs H Q → r x xs H Q) (ho : PEv X E o f) (ha : PAv X E (e :: es) fa)
    (hbase : attributeBase o name X.env (eval o X.env) = eval o X.env := by rfl)
    (hfew : ((backTo cpos (starEach (e :: es) X.env)).all (fun x => !x.1) && (backToKw cpos (keywordEach [] X.env)).all (fun x => x.1.isSome)
      && decide ((e :: es).length + ([] : List Keyword).length + (if ([] : List Keyword).isEmpty then 0 else 1) < 30)) = true := by rfl)
    (hline : (apos.endLine == cpos.line) = true := by rfl) (hs : starEach (e :: es) X.env = (false, eval e X.env) :: starEach es X.env := by rfl) (hplain : (backTo cpos (starEach es X.env)).any (·.1) = false := by rfl) :
    PEv X E (.Call (.Attribute o name apos) (e :: es) [] cpos) (eLm g f fa) := (pe_bm PySem.F.plainAttrs_list slot hty hm ho ha hbase hfew hline hs hplain).weak fun _ _ _ q => lm_weak hr q
theorem ev_lm0 {r : V → List V → Hp → VK → Prop} (slot : Slot "list" name id) (hty : typeOf (.builtin id) = pure (.type "method_descriptor")) (hm : MtR X id r) (hr : ∀ x xs H Q, rM X.K E g x xs H Q → r x xs H Q) (ho : PEv X E o f)
    (hbase : attributeBase o name X.env (eval o X.env) = eval o X.env := by rfl) (hline : (apos.endLine == cpos.line) = true := by rfl) :
    PEv X E (.Call (.Attribute o name apos) [] [] cpos) (eLm g f aNil) := (pe_bm0 PySem.F.plainAttrs_list slot hty hm ho hbase hline).weak fun _ _ _ q => lm_weak0 hr q
end
/-! ### two fors in a comprehension -/
def lc2F (g : GF) (t : BF) (fi1 : IF) (g1 : GF) (t1 : BF) (e : EF) (vs1 : List Nat) (d0 : En) : List W → Store → Res (List W)
  | [], S => .ok [] S
  | x :: xs, S => (g x d0 S).bind fun d1 S1 => (t d1 S1).bind fun k S2 => if k = true then (fi1 d1 S2).bind fun ws1 S3 => if ws1.length ≤ 100 then (lcF g1 t1 e (wipeE d1 vs1) ws1 S3).bind fun ys S4 => (lc2F g t fi1 g1 t1 e vs1 d0 xs S4).bind fun zs S5 => .ok (ys ++ zs) S5 else .bad
    else lc2F g t fi1 g1 t1 e vs1 d0 xs S2
def eLc2 (vs vs1 : List Nat) (i : IF) (g : GF) (t : BF) (fi1 : IF) (g1 : GF) (t1 : BF) (e : EF) : EF := fun d S => (i d S).bind fun ws S1 => match lc2F g t fi1 g1 t1 e vs1 (wipeE d vs) ws S1 with
  | .ok ys S2 => if ws.length ≤ 100 then .ok (.lst ys) S2 else .bad
  | _ => .bad
section
theorem lc2_core' {fi : IF} {g : GF} {t : BF} {fi1 : IF} {g1 : GF} {t1 : BF} {e : EF} {E : Str → Hp → Prop} {K : PySem.W.Frag} {σ : L2.St} {H : Hp} {Q : VK} {m : Own} {d : En} {S : Store} {vs vs1 : List Nat} (hE : RepE K m H σ d) (hS : RepS K m H S)
    (hp : Post K E m H (eLc2 vs vs1 fi g t fi1 g1 t1 e d S) (CV K Q)) : tLc2 (rI K E fi) (rGw K vs g) (rB K NoE t) (rI K NoE fi1) (rGw K vs1 g1) (rB K NoE t1) (rE K NoE e) vs vs1 σ H Q := by
  refine ⟨m, d, S, hE, hS, Post.bind hp fun ws S1 m1 H1 s1 r1 h1 J J1 D nD => ?_⟩
  split at h1
  · rename_i ys Sf e0
    split at h1
    · rename_i hl
      refine ⟨fun i k H' => ∃ m' S' accW ys', LcAt K m1 H1 D m' H' S' accW ∧ accW.length ≤ 100 * i ∧ i ≤ ws.length ∧ k = ws.length - i ∧ lc2F g t fi1 g1 t1 e vs1 (wipeE d vs) (ws.drop i) S' = .ok ys' Sf ∧ accW ++ ys' = ys,
        ⟨ws.length, _, S1, [], ys, LcAt.start r1 nD, Nat.zero_le _, Nat.zero_le _, rfl, e0, rfl⟩, ?_⟩
      rintro i k H2 ⟨m2, S2, accW, ys', L2', la, hi, rfl, e2, e3⟩
      have g2 : Grw m1 H1 m2 H2 := (Grw.hide nD).trans L2'.grw
      by_cases hlt : i < ws.length
      · refine .inr ⟨J1.go m2 H2 g2 i hlt, fun H' => ∃ m' S' accW ys', LcAt K m1 H1 D m' H' S' accW ∧ accW.length ≤ 100 * (i + 1) ∧ lc2F g t fi1 g1 t1 e vs1 (wipeE d vs) (ws.drop (i + 1)) S' = .ok ys' Sf ∧ accW ++ ys' = ys,
          fun H' ⟨m', S', aw, y', a1, a2, a3, a4⟩ => ⟨ws.length - (i + 1), by omega, m', S', aw, y', a1, a2, hlt, rfl, a3, a4⟩, fun x H3 y => ?_⟩
        obtain ⟨s3, r3, w, ew, rw'⟩ := J1.yld m2 H2 S2 g2 L2'.rs i x H3 hlt y
        have ed : ws.drop i = w :: ws.drop (i + 1) := by
          rw [List.drop_eq_getElem_cons hlt]
          congr 1
          have := List.getElem?_eq_getElem hlt
          rw [ew] at this
          exact (Option.some.inj this).symm
        rw [ed] at e2
        obtain ⟨d1, T1, q1, e2⟩ := bind_ok e2
        obtain ⟨b, T2, q2, e2⟩ := bind_ok e2
        refine ⟨m2, w, wipeE d vs, S2, (hE.wipe vs).step (s1.g.trans (g2.trans s3.g)), r3, rw', post_ok q1 fun m4 H4 s4 r4 σ4 he4 wp => ⟨wp.trans (wipe_wipe vs), m4, d1, T1, he4, r4, post_ok q2 fun m5 H5 s5 r5 => ?_⟩⟩
        cases b with
        | false =>
          refine CB.ff ?_
          exact ⟨m5, T2, accW, ys', L2'.step (s3.trans (s4.trans s5)) r5, by omega, e2, e3⟩
        | true =>
          refine CB.tt ?_
          obtain ⟨ws1, T3, q3, e2⟩ := bind_ok e2
          split at e2
          · rename_i hl1
            obtain ⟨ys1, T4, q4, e2⟩ := bind_ok e2
            obtain ⟨zs, T5, q5, e2⟩ := bind_ok e2
            cases e2
            refine ⟨m5, d1, T2, he4.step s5.g, r5, post_ok q3 fun m6 H6 s6 r6 J2 J3 => ?_⟩
            refine ⟨fun j k H' => ∃ m' S' accW' ys1', LcAt K m1 H1 D m' H' S' accW' ∧ Grw m6 H6 m' H' ∧ accW'.length ≤ 100 * i + j ∧ j ≤ ws1.length ∧ k = ws1.length - j ∧ lcF g1 t1 e (wipeE d1 vs1) (ws1.drop j) S' = .ok ys1' T4 ∧ accW' ++ (ys1' ++ zs) = ys,
              ⟨ws1.length, m6, T3, accW, ys1, L2'.step (s3.trans (s4.trans (s5.trans s6))) r6, Grw.refl, by omega, Nat.zero_le _, rfl, q4, e3⟩, ?_⟩
            rintro j k H7 ⟨m7, S7, aw7, ys7, L7, g7, la7, hj, rfl, e7, e8⟩
            by_cases hlt1 : j < ws1.length
            · refine .inr ⟨J3.go m7 H7 g7 j hlt1, fun H' => ∃ m' S' accW' ys1', LcAt K m1 H1 D m' H' S' accW' ∧ Grw m6 H6 m' H' ∧ accW'.length ≤ 100 * i + (j + 1) ∧ lcF g1 t1 e (wipeE d1 vs1) (ws1.drop (j + 1)) S' = .ok ys1' T4 ∧ accW' ++ (ys1' ++ zs) = ys,
                fun H' ⟨m', S', aw, y', a1, a2, a3, a4, a5⟩ => ⟨ws1.length - (j + 1), by omega, m', S', aw, y', a1, a2, a3, hlt1, rfl, a4, a5⟩, fun x8 H8 y8 => ?_⟩
              obtain ⟨s8, r8, w8, ew8, rw8⟩ := J3.yld m7 H7 S7 g7 L7.rs j x8 H8 hlt1 y8
              have ed8 : ws1.drop j = w8 :: ws1.drop (j + 1) := by
                rw [List.drop_eq_getElem_cons hlt1]
                congr 1
                have := List.getElem?_eq_getElem hlt1
                rw [ew8] at this
                exact (Option.some.inj this).symm
              rw [ed8] at e7
              obtain ⟨d9, T9, q9, e7⟩ := bind_ok e7
              obtain ⟨b9, T10, q10, e7⟩ := bind_ok e7
              refine ⟨m7, w8, wipeE d1 vs1, S7, ((he4.wipe vs1).step (s5.g.trans (s6.g.trans (g7.trans s8.g)))), r8, rw8, post_ok q9 fun m10 H10 s10 r10 σ10 he10 wp10 => ⟨wp10.trans (wipe_wipe vs1), m10, d9, T9, he10, r10, post_ok q10 fun m11 H11 s11 r11 => ?_⟩⟩
              cases b9 with
              | false =>
                refine CB.ff ?_
                exact ⟨m11, T10, aw7, ys7, L7.step (s8.trans (s10.trans s11)) r11, g7.trans (s8.trans (s10.trans s11)).g, by omega, e7, e8⟩
              | true =>
                refine CB.tt ?_
                obtain ⟨z, T11, q11, e7⟩ := bind_ok e7
                obtain ⟨zs7, T12, q12, e7⟩ := bind_ok e7
                refine ⟨m11, d9, T10, he10.step s11.g, r11, post_ok q11 fun m12 H12 s12 r12 v rv => ?_⟩
                have L12 := L7.step (s8.trans (s10.trans (s11.trans s12))) r12
                obtain ⟨acc, ea, ra⟩ := L12.acc
                cases e7
                refine ⟨acc, ea, Nat.lt_of_le_of_lt (show acc.length ≤ 100000 by rw [ra.length]; omega) (by decide), m12, T11, aw7 ++ [z], zs7, L12.put r1 nD ea rv, ?_, by simp; omega, q12, by simp only [List.append_assoc]; exact e8⟩
                have hD : D ∈ m12.hid := by rw [L12.hid]; exact List.mem_cons_self
                exact (g7.trans (s8.trans (s10.trans (s11.trans s12))).g).trans (Grw.write (.inl hD))
            · have e9 : j = ws1.length := by omega
              subst e9
              refine .inl ⟨J3.stop m7 H7 g7 _ rfl, ?_⟩
              rw [List.drop_length] at e7
              cases e7
              exact ⟨m7, _, aw7, zs, L7, by omega, q5, e8⟩
          · cases e2
      · have e4 : i = ws.length := by omega
        subst e4
        refine .inl ⟨J1.stop m2 H2 g2 _ rfl, ?_⟩
        rw [List.drop_length] at e2
        cases e2
        rw [List.append_nil] at e3
        subst e3
        obtain ⟨f1, f2, f3⟩ := L2'.fin r1 nD
        exact h1 _ _ f1 f2 _ f3
    · exact h1.elim
  · exact h1.elim
variable {X : Cx} {E : Str → Hp → Prop} {elt tg iter tg1 iter1 : Expr} {ifs ifs1 : List Expr} {scope : Scope} {own : List (Str × Nat)} {vs1 : List Nat} {pos : Pos} {fi fi1 : IF} {g g1 : GF} {t t1 : BF} {e : EF}
theorem ev_lc2 (hc : X.calm = true) (hN : X.N.Nodup) (hi : PIv X E tg iter fi) (ok : BlkOk X.N X.env.scope scope own) (hv : ∀ i ∈ vs1, i ∈ own.map (·.2))
    (hg : ∀ (s : Shared) (H : Hp) (C : Addr) (cl : List (Str × Addr)) (fp : List Addr), PGw (X.blk s H scope (compEnvC scope cl C X.env) fp) (own.map (·.2)) tg g) (ht : ∀ (s : Shared) (H : Hp) (C : Addr) (cl : List (Str × Addr)) (fp : List Addr), PTsv (X.blk s H scope (compEnvC scope cl C X.env) fp) NoE ifs t)
    (hi1 : ∀ (s : Shared) (H : Hp) (C : Addr) (cl : List (Str × Addr)) (fp : List Addr), PIv (X.blk s H scope (compEnvC scope cl C X.env) fp) NoE tg1 iter1 fi1)
    (hg1 : ∀ (s : Shared) (H : Hp) (C : Addr) (cl : List (Str × Addr)) (fp : List Addr), PGw (X.blk s H scope (compEnvC scope cl C X.env) fp) vs1 tg1 g1) (ht1 : ∀ (s : Shared) (H : Hp) (C : Addr) (cl : List (Str × Addr)) (fp : List Addr), PTsv (X.blk s H scope (compEnvC scope cl C X.env) fp) NoE ifs1 t1)
    (he : ∀ (s : Shared) (H : Hp) (C : Addr) (cl : List (Str × Addr)) (fp : List Addr), PEv (X.blk s H scope (compEnvC scope cl C X.env) fp) NoE elt e) (hs : ∀ x, foldedSetIterable iter X.env x = pure x := by intro _; rfl) (hs1 : ∀ env x, foldedSetIterable iter1 env x = pure x := by intro _ _; rfl) :
    PEv X E (.ListComp elt [⟨tg, iter, ifs, 0⟩, ⟨tg1, iter1, ifs1, 0⟩] scope pos) (eLc2 (own.map (·.2)) vs1 fi g t fi1 g1 t1 e) := (pe_lc2 hc hN hi ok hv hg ht hi1 hg1 ht1 he hs hs1).weak fun σ H Q ⟨m, d, S, hE, hS, hp⟩ => lc2_core' hE hS hp
end
end Iv
end
section
set_option maxHeartbeats 2000000
set_option maxRecDepth 100000
namespace Iv
open PySem L2
theorem bb_len : bootBuiltins "len" = some (.builtin "len") := by decide +kernel
theorem bb_abs : bootBuiltins "abs" = some (.builtin "abs") := by decide +kernel
theorem bb_max : bootBuiltins "max" = some (.builtin "max") := by decide +kernel
theorem bb_min : bootBuiltins "min" = some (.builtin "min") := by decide +kernel
theorem bb_sum : bootBuiltins "sum" = some (.builtin "sum") := by decide +kernel
theorem bb_sorted : bootBuiltins "sorted" = some (.builtin "sorted") := by decide +kernel
theorem bb_all : bootBuiltins "all" = some (.builtin "all") := by decide +kernel
theorem bb_any : bootBuiltins "any" = some (.builtin "any") := by decide +kernel
theorem bb_tuple : bootBuiltins "tuple" = some (.type "tuple") := by decide +kernel
theorem bb_list : bootBuiltins "list" = some (.type "list") := by decide +kernel
theorem bb_int : bootBuiltins "int" = some (.type "int") := by decide +kernel
theorem bb_bool : bootBuiltins "bool" = some (.type "bool") := by decide +kernel
theorem bb_str : bootBuiltins "str" = some (.type "str") := by decide +kernel
/-- the built-ins are still those of the language -/
structure Bt (mg : Str → Option Value) : Prop where
  len : mg "len" = none
  abs : mg "abs" = none
  max : mg "max" = none
  min : mg "min" = none
  sum : mg "sum" = none
  sorted : mg "sorted" = none
  all : mg "all" = none
  any : mg "any" = none
  tuple : mg "tuple" = none
  list : mg "list" = none
  int : mg "int" = none
  bool : mg "bool" = none
  str : mg "str" = none
  range : mg "range" = none
  isinstance : mg "isinstance" = none
  zip : mg "zip" = none
  enumerate : mg "enumerate" = none
  set : mg "set" = none
  dict : mg "dict" = none
/-- x + y of two lists, the new one to be changed -/
def wAddN (x y : W) (S : Store) : Res W := match listOf x S, listOf y S with
  | some a, some b => if a.length + b.length ≤ 100000 then .ok (.mt S.length) (S ++ [.L (a ++ b)]) else .bad
  | _, _ => .bad
section
variable {X : Cx} {E : Str → Hp → Prop}
theorem o_addN : OpR X (binaryOp .Add) (rO X.K E wAddN) := op_cat.weak fun x y H Q ⟨m, wx, wy, S, rs, rx, ry, hp⟩ => by
  unfold wAddN at hp
  split at hp
  · rename_i e1 e2
    split at hp
    · rename_i hl
      obtain ⟨a, vs, rfl, ha, ra⟩ := rx.list rs e1
      obtain ⟨b, us, rfl, hb, rb⟩ := ry.list rs e2
      exact ⟨a, b, vs, us, rfl, rfl, ha, hb, by rw [ra.length, rb.length]; exact Nat.le_trans hl (by decide), fun p np => hp _ _ (rs.pushS np) (rs.push np (ra.append rb)) _ (.mt (l := []) (by rw [← rs.len]; simp [Own.push]))⟩
    · exact hp.elim
  · exact hp.elim
end
end Iv
namespace Iv
open PySem L2
/-- the law's end -/
theorem law_end {F : List W → Store → Res W} {ns : List Int} {K : PySem.W.Frag} {H : Hp} {a : Addr} (h : ∃ S', F [.scr ns] [] = .ok (.bl true) S') (hS : SqL K H a (ns.map V.int)) : spF K EE0 1 F [.ref a] H (fun v _ => v = .bl true) (fun _ _ _ => False) := by
  obtain ⟨S', e⟩ := h
  have no : ∀ p, ¬ owned ⟨[], []⟩ p := fun p z => by
    rcases z with z | ⟨l, z, _⟩
    · cases z
    · cases z
  refine ⟨rfl, ⟨[], []⟩, [.scr ns], [], .cons (.scr ?_) .nil, ⟨rfl, fun k o q => by simp at q, fun j k l l' _ q => by simp at q, fun a q => by simp at q, fun k l q => by simp at q⟩, post_ok e fun m' H' _ _ v rv => ?_⟩
  · rcases hS with hS | hS
    · exact .inl ⟨hS, no a⟩
    · exact .inr hS
  · cases rv
    rfl
end Iv
end
section
set_option maxHeartbeats 2000000
set_option maxRecDepth 100000
namespace Iv
open PySem L2
/-! ### a < b < c as a test -/
section
variable {X : Cx} {E : Str → Hp → Prop} {a b c e : Expr} {f g h : EF} {pos : Pos}
theorem rE_chain {K : PySem.W.Frag} {o o' : W → W → Store → Res W} {σ : L2.St} {H : Hp} {Q : VK} (q : rE K E (eChain o o' f g h) σ H Q) : tChain (rO K E o) (rO K E o') (rE K E f) (rE K E g) (rE K E h) σ H Q := by
  obtain ⟨m, d, S, he, hs, hp⟩ := q
  refine ⟨m, d, S, he, hs, Post.bind hp fun x S1 m1 H1 s1 r1 h1 v rv => ⟨m1, d, S1, he.step s1.g, r1, Post.bind h1 fun y S2 m2 H2 s2 r2 h2 u ru => ?_⟩⟩
  refine ⟨m2, x, y, S2, r2, rv.step s2.g, ru, Post.bind h2 fun z S3 m3 H3 s3 r3 h3 t rt => ?_⟩
  cases rt with
  | bl k =>
    refine ⟨k, rfl, ?_⟩
    cases k with
    | true =>
      refine iteT ⟨m3, d, S3, he.step (s1.trans (s2.trans s3)).g, r3, Post.bind h3 fun z4 S4 m4 H4 s4 r4 h4 t4 rt4 => ?_⟩
      exact ⟨m4, y, z4, S4, r4, ru.step (s3.trans s4).g, rt4, h4⟩
    | false => exact iteF (h3.ok r3 _ (.bl false))
  | _ => exact h3.elim
theorem tv_chain {op op' : CmpOp} {o o' : W → W → Store → Res W} (ho : OpR X (compareOp op) (rO X.K E o)) (ho' : OpR X (compareOp op') (rO X.K E o')) (ha : PEv X E a f) (hb : PEv X E b g) (hc : PEv X E c h) (hm : lastMarks [op, op'] [b, c] = false := by rfl) :
    PTv X E (.Compare a [op, op'] [b, c] pos) (bVal (eChain o o' f g h)) := (pt_chain ho ho' ha hb hc hm).weak fun σ H Q ⟨m, d, S, he, hs, hp⟩ => by
  have q : tChain (rO X.K E o) (rO X.K E o') (rE X.K E f) (rE X.K E g) (rE X.K E h) σ H (fun x H1 => ∃ k, x = .bl k ∧ Q k H1) := rE_chain ⟨m, d, S, he, hs, Post.bind hp fun x S1 m1 H1 s1 r1 h1 v rv => by
    cases rv with
    | bl k => exact ⟨k, rfl, h1.ok r1⟩
    | _ => exact h1.elim⟩
  exact q
end
/-! ### min of three -/
section
variable {X : Cx} {E : Str → Hp → Prop}
theorem c_min3 (hc : X.calm = true) : CallR X (.builtin "min") (rF X.K E bMin3) := (call_min3Nu hc).weak fun xs H Q ⟨m, ws, S, rs, rv, hp⟩ => by
  unfold bMin3 at hp
  split at hp
  · rename_i i j k
    cases rv with
    | cons h1 h2 => cases h2 with
      | cons h3 h4 => cases h4 with
        | cons h5 h6 =>
          cases h6
          cases h1
          cases h3
          cases h5
          refine ⟨_, _, _, _, rfl, ?_, hp.ok rs _ (.int _)⟩
          show (nuMin2 (.int i) (.int j)).bind (fun m => nuMin2 m (.int k)) = some (V.int (let m := if j < i then j else i; if k < m then k else m))
          have key : ∀ a b : Int, nuMin2 (.int a) (.int b) = some (.int (if b < a then b else a)) := fun a b => by
            show (nuLt (.int b) (.int a)).map (fun c => if c = true then V.int b else V.int a) = _
            have : nuLt (.int b) (.int a) = some (decide (b < a)) := rfl
            rw [this]
            show some (if decide (b < a) = true then V.int b else V.int a) = _
            by_cases q : b < a <;> simp [q]
          rw [key]
          show nuMin2 (.int _) (.int k) = _
          rw [key]
  · exact hp.elim
end
/-! ### t.index(n) of ints -/
def idxI (n : Int) : List Int → Option Nat
  | [] => none
  | k :: r => if k = n then some 0 else (idxI n r).map (· + 1)
def tIndex (zs : List W) (ws : List W) (S : Store) : Res W := match ws with
  | [.int n] => match intsOf zs with
    | some ns => match idxI n ns with
      | some j => .ok (.int j) S
      | none => .bad
    | none => .bad
  | _ => .bad
def eTix (f : EF) (a : AF) : EF := fun d S => (f d S).bind fun x S1 => match x with
  | .tup zs => (a d S1).bind fun xs S2 => tIndex zs xs S2
  | _ => .bad
theorem idxI_idx (n : Int) : ∀ (l : List Int) (j : Nat), idxI n l = some j → n ∈ l ∧ l.idxOf n = j
  | [], _, h => by simp [idxI] at h
  | k :: r, j, h => by
    unfold idxI at h
    split at h
    · rename_i e
      subst e
      simp at h
      subst h
      exact ⟨List.mem_cons_self, by simp⟩
    · rename_i e
      obtain ⟨j', h1, rfl⟩ := Option.map_eq_some_iff.mp h
      obtain ⟨h2, h3⟩ := idxI_idx n r j' h1
      refine ⟨List.mem_cons_of_mem _ h2, ?_⟩
      rw [List.idxOf_cons, h3]
      have : (k == n) = false := by simpa using e
      rw [this]
      rfl
section
variable {X : Cx} {E : Str → Hp → Prop} {o e : Expr} {f : EF} {fa : AF} {apos cpos : Pos}
theorem ev_tix (ho : PEv X E o f) (ha : PAv X E [e] fa) (hb : attributeBase o "index" X.env (eval o X.env) = eval o X.env := by rfl)
    (hf : ((backTo cpos (starEach [e] X.env)).all (fun x => !x.1) && (backToKw cpos (keywordEach [] X.env)).all (fun x => x.1.isSome) && decide (([e] : List Expr).length + ([] : List Keyword).length + (if ([] : List Keyword).isEmpty then 0 else 1) < 30)) = true := by rfl)
    (hl : (apos.endLine == cpos.line) = true := by rfl) (hs : starEach [e] X.env = (false, eval e X.env) :: starEach [] X.env := by rfl) (hp : (backTo cpos (starEach [] X.env)).any (·.1) = false := by rfl) :
    PEv X E (.Call (.Attribute o "index" apos) [e] [] cpos) (eTix f fa) := (pe_tm PySem.F.slot_tuple_index PySem.F.type_tuple_index mt_tup_ixI ho ha hb hf hl hs hp).weak fun σ H Q ⟨m, d, S, he, hs, hp⟩ => by
  refine ⟨m, d, S, he, hs, Post.bind hp fun x S1 m1 H1 s1 r1 h1 v rv => ?_⟩
  cases rv with
  | tup q1 q2 =>
    refine ⟨⟨_, rfl, q1.plain⟩, m1, d, S1, he.step s1.g, r1, Post.bind h1 fun xs S2 m2 H2 s2 r2 h2 us ru => ?_⟩
    unfold tIndex at h2
    split at h2
    · cases ru with
      | cons a1 a2 =>
        cases a2
        cases a1
        split at h2
        · rename_i e1
          split at h2
          · rename_i j e2
            obtain ⟨g1, g2⟩ := idxI_idx _ _ _ e2
            have e3 := repLits (q2.step s2.g) e1
            refine ⟨_, _, _, rfl, rfl, ?_, g1, ?_⟩
            · rw [← e3]
              exact (q1.step s2.g).sq
            · rw [g2]
              exact h2.ok r2 _ (.int _)
          · exact h2.elim
        · exact h2.elim
    · exact h2.elim
  | _ => exact h1.elim
end
/-! ### zip of two -/
def zipW : List W → List W → List W
  | x :: xs, y :: ys => .tup [x, y] :: zipW xs ys
  | _, _ => []
def iZp (a : AF) : IF := fun d S => (a d S).bind fun ws S1 => match ws with
  | [x, y] => match stillOf x, stillOf y with
    | some xs, some ys => .ok (zipW xs ys) S1
    | _, _ => .bad
  | _ => .bad
end Iv
end
section
set_option maxHeartbeats 2000000
set_option maxRecDepth 100000
/-! ### zip of two sequences, each a list or a tuple -/
namespace L2
open PySem PySem.Spec PyProof.Rows
/-- k: a list (true) or a tuple -/
def SqA (K : PySem.W.Frag) (k : Bool) (H : Hp) (a : Addr) (xs : List V) : Prop := if k = true then SqL K H a xs else SqT K H a xs
def IsIt (k : Bool) (h : Heap) (it a : Addr) (i : Nat) : Prop := if k = true then h.IsListIter it a i else h.IsTupleIter it a i
/-- what an iterator over such a sequence draws -/
def StA (k : Bool) (it a : Addr) (items : Array Value) (i : Nat) (h : Heap) : Prop := if k = true then h.IsListIter it a i ∧ h.IsList a items else h.IsTupleIter it a i ∧ h.IsTuple a items
theorem drawsA {prog : Program} {w : World} {A : Around} (hh : A.handled = none) (k : Bool) (it a : Addr) (hne : a ≠ it) (items : Array Value) : Draws prog w A it [it, a] items.size (fun i v => items[i]? = some v) (StA k it a items) := by
  cases k with
  | true => exact Draws.list hh it a hne items
  | false => exact Draws.tuple hh it a hne items
theorem StA.it {k : Bool} {it a : Addr} {items : Array Value} {i : Nat} {h : Heap} (s : StA k it a items i h) : IsIt k h it a i := by
  cases k with
  | true => exact s.1
  | false => exact s.1
theorem StA.mk {X : Cx} {pins : List (Addr × Obj)} {σ : L2.St} {H : Hp} {s : Shared} {k : Bool} {it a : Addr} {xs : List V} {i : Nat} (I : Inv X pins σ H s) (q : SqA X.K k H a xs) (t : IsIt k s.heap it a i) : ∃ its : List Value, Vals xs its ∧ a < s.heap.objs.size ∧ StA k it a its.toArray i s.heap := by
  cases k with
  | true =>
    obtain ⟨its, r, p, _⟩ := I.list (xs := xs) q
    exact ⟨its, r, p.lt, t, p.isList⟩
  | false =>
    obtain ⟨its, r, p, _⟩ := I.tuple (xs := xs) q
    obtain ⟨o, ho, _⟩ := id p
    exact ⟨its, r, Heap.lt_size ho, t, p⟩
theorem SqA.inj {X : Cx} {pins : List (Addr × Obj)} {σ : L2.St} {H : Hp} {s : Shared} {k : Bool} {a : Addr} {xs ys : List V} (I : Inv X pins σ H s) (q : SqA X.K k H a xs) (q' : SqA X.K k H a ys) : xs = ys := by
  cases k with
  | true => exact I.list_inj q q'
  | false => exact I.tuple_inj q q'
theorem IsIt.at {k : Bool} {h h' : Heap} {it a : Addr} {i : Nat} (t : IsIt k h it a i) (e : ∀ o, h.get? it = some o → h'.get? it = some o) : IsIt k h' it a i := by
  cases k with
  | true => exact Heap.IsListIter.at t e
  | false => exact Heap.IsTupleIter.at t e
theorem IsIt.ob {k : Bool} {h : Heap} {it a : Addr} {i : Nat} (t : IsIt k h it a i) : ∃ o, h.get? it = some o ∧ ∀ v, o.data ≠ .cell v := by
  cases k with
  | true =>
    obtain ⟨o, e, _, d⟩ := t
    exact ⟨o, e, fun v q => by rw [d] at q; cases q⟩
  | false =>
    obtain ⟨o, e, _, d⟩ := t
    exact ⟨o, e, fun v q => by rw [d] at q; cases q⟩
def ItzA (K : PySem.W.Frag) (k k' : Bool) (a b : Addr) : It :=
  ⟨fun i H => ∃ (xs ys : List V) (x y : V), SqA K k H a xs ∧ SqA K k' H b ys ∧ xs[i]? = some x ∧ ys[i]? = some y,
    fun i H v H' => ∃ T ob x y, v = .ref T ∧ H T = none ∧ ob.cls = .type "tuple" ∧ ob.dict = none ∧ H' = upd H T (.frz ob (.tup [x, y])) ∧ (∀ xs, SqA K k H a xs → xs[i]? = some x) ∧ ∀ ys, SqA K k' H b ys → ys[i]? = some y,
    fun i H => ∃ xs ys : List V, SqA K k H a xs ∧ SqA K k' H b ys ∧ i ≤ xs.length ∧ i ≤ ys.length ∧ (i = xs.length ∨ i = ys.length)⟩
theorem turn_zipA {P : Program} {w : World} {K : PySem.W.Frag} {elts : List Expr} {kk : Nat} {tpos : Pos} {k k' : Bool} {a b z TI TO i1 i2 : Addr} (D : ZipApart z TI TO i1 i2 a b) :
    Turn P w K (.Tuple elts kk tpos) (ItzA K k k' a b) [z, TI, TO, i1, i2] z (fun i h => IsZip h z TI TO .none ∧ IsPair h TI (.ref i1) (.ref i2) ∧ (∃ x y, IsPair h TO x y) ∧ IsIt k h i1 a i ∧ IsIt k' h i2 b i) where
  mem := by simp
  obj := fun i h st c hc => by
    obtain ⟨hz, hTI, ⟨x, y, hTO⟩, h1, h2⟩ := st
    have e' : c = z ∨ c = TI ∨ c = TO ∨ c = i1 ∨ c = i2 := by simpa using hc
    rcases e' with q | q | q | q | q
    · rw [q]; exact ⟨_, hz, fun v q => nomatch q⟩
    · rw [q]; exact ⟨_, hTI, fun v q => nomatch q⟩
    · rw [q]; exact ⟨_, hTO, fun v q => nomatch q⟩
    · rw [q]; exact h1.ob
    · rw [q]; exact h2.ob
  keep := fun i h h' st q => by
    obtain ⟨hz, hTI, ⟨x, y, hTO⟩, h1, h2⟩ := st
    exact ⟨q z (by simp) _ hz, q TI (by simp) _ hTI, ⟨x, y, q TO (by simp) _ hTO⟩, h1.at fun o e => q i1 (by simp) o e, h2.at fun o e => q i2 (by simp) o e⟩
  item := by
    intro X hP hw hK hc i pins s σ H E I hf st hg
    subst hP hw hK
    obtain ⟨hz, hTI, ⟨x0, y0, hTO⟩, h1, h2⟩ := st
    obtain ⟨xs, ys, x, y, hqx, hqy, hx, hy⟩ := hg
    obtain ⟨its, rv, la, s1⟩ := StA.mk I hqx h1
    obtain ⟨its2, rv2, lb, s2⟩ := StA.mk I hqy h2
    obtain ⟨u, hu, ru⟩ := rv.get hx
    obtain ⟨u2, hu2, ru2⟩ := rv2.get hy
    have hzl : z < s.heap.objs.size := Heap.lt_size hz
    have hh : X.A.in1.handled = none := I.ok.hd hc
    have Z : ZipSep2 z TI TO i1 i2 [i1, a] [i2, b] := ⟨D.TIz, D.TOz, D.TITO, D.TIi1, by simp, by simp [Ne.symm D.i1z, Ne.symm D.l1z], by simp [D.TOi1, Ne.symm D.l1TO], D.TIi2, by simp, by simp [Ne.symm D.i2z, Ne.symm D.l2z], by simp [D.TOi2, Ne.symm D.l2TO], by simp [D.i12, Ne.symm D.l2i1], by simp [Ne.symm D.i12, Ne.symm D.l1i2]⟩
    have hi1 : i < its.toArray.size := by
      have := (List.getElem?_eq_some_iff.mp hu).1
      simpa using this
    have hi2 : i < its2.toArray.size := by
      have := (List.getElem?_eq_some_iff.mp hu2).1
      simpa using this
    refine wpAny_pyNext_zipD2_item Z (drawsA hh k i1 a D.l1i1 its.toArray) (drawsA hh k' i2 b D.l2i2 its2.toArray) hz hTI hTO s1 s2 hi1 hi2 fun x1 x2 h' tk p1 p2 z' TO' t1 t2 hT hsz hk => ?_
    have e1 : x1 = u := by
      have : its.toArray[i]? = some u := by simpa using hu
      rw [this] at p1; cases p1; rfl
    have e2 : x2 = u2 := by
      have : its2.toArray[i]? = some u2 := by simpa using hu2
      rw [this] at p2; cases p2; rfl
    subst e1 e2
    refine ⟨_, rfl, wpAny_letOwnedTupleGo_zip (s := { s with heap := h', toks := tk }) z' fun h'' z'' sb => ?_⟩
    have hT2 : h''.get? s.heap.objs.size = some { cls := .type "tuple", data := .seq #[x1, x2] } := (sb.2 _ (Nat.ne_of_gt hzl)).trans hT
    have new : ObjOk X.prog X.w (upd H s.heap.objs.size (.frz { cls := .type "tuple", data := .seq #[x1, x2] } (.tup [x, y]))) h'' s.heap.objs.size (.frz { cls := .type "tuple", data := .seq #[x1, x2] } (.tup [x, y])) :=
      ⟨hT2, by show 2 ≤ sizeLine; decide, [x1, x2], .cons ru (.cons ru2 .nil), ⟨_, hT2, rfl, _, rfl⟩⟩
    have I1 : Inv X pins σ (upd H s.heap.objs.size (.frz { cls := .type "tuple", data := .seq #[x1, x2] } (.tup [x, y]))) { s with heap := h'', toks := tk } :=
      I.turnedNew (t' := tk) (ch := [z, TI, TO, i1, i2]) (fun c o hb q => (sb.2 c (fun q' => hb (by simp [q']))).trans (hk c o (fun q' => hb (by simp [q'])) (fun q' => hb (by simp [q'])) (fun q' => hb (by simp [q'])) (fun q' => hb (by simp [q'])) q)) hf (Nat.le_refl _) new
    refine ⟨.ref s.heap.objs.size, _, I1, rfl, ⟨_, _, x, y, rfl, I.hok.fresh (Nat.le_refl _), rfl, rfl, rfl, fun l hl => by rw [SqA.inj I hl hqx]; exact hx, fun l hl => by rw [SqA.inj I hl hqy]; exact hy⟩, ⟨z'', ?_, ⟨x1, x2, ?_⟩, ?_, ?_⟩, fun c hcm => ?_⟩
    · exact (sb.2 _ D.TIz).trans (hk _ _ D.TIz D.TITO D.TIi1 D.TIi2 hTI)
    · exact (sb.2 _ D.TOz).trans TO'
    · exact t1.it.at fun o q => (sb.2 _ D.i1z).trans q
    · exact t2.it.at fun o q => (sb.2 _ D.i2z).trans q
    · have hlt : c < s.heap.objs.size := by
        have e' : c = z ∨ c = TI ∨ c = TO ∨ c = i1 ∨ c = i2 := by simpa using hcm
        rcases e' with q | q | q | q | q
        · rw [q]; exact hzl
        · rw [q]; exact Heap.lt_size hTI
        · rw [q]; exact Heap.lt_size hTO
        · rw [q]; obtain ⟨_, e1, _⟩ := h1.ob; exact Heap.lt_size e1
        · rw [q]; obtain ⟨_, e2, _⟩ := h2.ob; exact Heap.lt_size e2
      rw [upd_ne (Nat.ne_of_lt hlt)]
      exact (hf c hcm).1
  done := by
    intro X hP hw hK hc i pins s σ H E I hf st hg
    subst hP hw hK
    obtain ⟨hz, hTI, ⟨x0, y0, hTO⟩, h1, h2⟩ := st
    obtain ⟨xs, ys, hqx, hqy, g1, g2, hend⟩ := hg
    obtain ⟨its, rv, la, s1⟩ := StA.mk I hqx h1
    obtain ⟨its2, rv2, lb, s2⟩ := StA.mk I hqy h2
    have l1 := rv.length
    have l2 := rv2.length
    have hh : X.A.in1.handled = none := I.ok.hd hc
    have Z : ZipSep2 z TI TO i1 i2 [i1, a] [i2, b] := ⟨D.TIz, D.TOz, D.TITO, D.TIi1, by simp, by simp [Ne.symm D.i1z, Ne.symm D.l1z], by simp [D.TOi1, Ne.symm D.l1TO], D.TIi2, by simp, by simp [Ne.symm D.i2z, Ne.symm D.l2z], by simp [D.TOi2, Ne.symm D.l2TO], by simp [D.i12, Ne.symm D.l2i1], by simp [Ne.symm D.i12, Ne.symm D.l1i2]⟩
    exact wpAny_pyNext_zipD2_end Z (drawsA hh k i1 a D.l1i1 its.toArray) (drawsA hh k' i2 b D.l2i2 its2.toArray) hz hTI hTO s1 s2 (by simp; omega) (by simp; omega) (by simp; omega) fun h' tk hk => ⟨rfl, I.turnedL (t' := tk) (ch := [z, TI, TO, i1, i2]) (fun c o hb q =>
      hk c o (fun q' => hb (by simp [q'])) (fun q' => hb (by simp [q'])) (fun q' => hb (by simp [q'])) (fun q' => hb (by simp [q'])) q) hf⟩
  self := fun A i s Q E st h => wpAny_pyIter_zip st.1 h
theorem beginsA {X : Cx} {pins : List (Addr × Obj)} {σ : L2.St} {H : Hp} {s : Shared} {k : Bool} {a : Addr} {xs : List V} (I : Inv X pins σ H s) (q : SqA X.K k H a xs) :
    ∃ (o : Obj) (B : Heap → Prop), Begins (.ref a) o B ∧ B s.heap ∧ a < s.heap.objs.size ∧ ∀ (h : Heap) (it : Addr), h.get? it = some o → IsIt k h it a 0 := by
  cases k with
  | true =>
    obtain ⟨its, r, p, _⟩ := I.list (xs := xs) q
    exact ⟨_, _, begins_list a its.toArray, p.isList, p.lt, fun h it e => ⟨_, e, rfl, rfl⟩⟩
  | false =>
    obtain ⟨its, r, p, _⟩ := I.tuple (xs := xs) q
    obtain ⟨o, ho, _⟩ := id p
    exact ⟨_, _, begins_tuple a its.toArray, p, Heap.lt_size ho, fun h it e => ⟨_, e, rfl, rfl⟩⟩
def iZipS (K : PySem.W.Frag) (ta : TA) : TI := fun σ H R => ta σ H fun vs H1 => ∃ k k' a b xs ys, vs = [.ref a, .ref b] ∧ SqA K k H1 a xs ∧ SqA K k' H1 b ys ∧ R (ItzA K k k' a b) H1
theorem pi_zipS {X : Cx} {e e2 : Expr} {ta : TA} {p pos tpos : Pos} {elts : List Expr} {kk : Nat} (hg : Gl X "zip") (hm : X.mg "zip" = none) (ha : PA X [e, e2] ta)
    (hs : starEach [e, e2] X.env = (false, eval e X.env) :: starEach [e2] X.env := by rfl) (hpl : (backTo pos (starEach [e2] X.env)).any (·.1) = false := by rfl) :
    PI X (.Tuple elts kk tpos) (.Call (.Name "zip" p) [e, e2] [] pos) (iZipS X.K ta) := by
  refine ⟨fun pins s σ H R I h => ?_⟩
  refine Call_ (ld_blt I hg hm PyProof.Rows.boot_zip (PyProof.Rows.callWith_type1 (thn (ha.run pos pins s σ H _ I h) fun us s1 ⟨vs, H1, I1, r1, q1⟩ => ?_) hs hpl))
  obtain ⟨k, k', a, b, xs, ys, ex, hqx, hqy, q⟩ := q1
  subst ex
  cases r1 with
  | cons r rr =>
    cases rr with
    | cons r' rr =>
      cases rr
      cases r
      cases r'
      have fresh5 : ∀ c, c ∈ [s1.heap.objs.size + 4, s1.heap.objs.size + 2, s1.heap.objs.size + 3, s1.heap.objs.size, s1.heap.objs.size + 1] → FpOk X pins H1 c := fun c hcm => by
        have e' : c = s1.heap.objs.size + 4 ∨ c = s1.heap.objs.size + 2 ∨ c = s1.heap.objs.size + 3 ∨ c = s1.heap.objs.size ∨ c = s1.heap.objs.size + 1 := by simpa using hcm
        have hle : s1.heap.objs.size ≤ c := by
          rcases e' with z | z | z | z | z
          · rw [z]; exact Nat.le_add_right _ _
          · rw [z]; exact Nat.le_add_right _ _
          · rw [z]; exact Nat.le_add_right _ _
          · rw [z]; exact Nat.le_refl _
          · rw [z]; exact Nat.le_add_right _ _
        exact I1.fpOk hle (I1.hok.fresh hle)
      obtain ⟨o1, B1, b1, c1, la, j1⟩ := beginsA I1 hqx
      obtain ⟨o2, B2, b2, c2, lb, j2⟩ := beginsA I1 hqy
      refine zip_begins2 b1 b2 c1 c2 fun h' hz hTI hTO h1 h2 hsz hk => wpAny_pyIter_zip hz ?_
      have I2 : Inv X pins σ H1 { s1 with heap := h' } := I1.kept (t' := s1.toks) hk
      exact ⟨s1.heap.objs.size + 4, [s1.heap.objs.size + 4, s1.heap.objs.size + 2, s1.heap.objs.size + 3, s1.heap.objs.size, s1.heap.objs.size + 1], _, _, H1, rfl, I2, turn_zipA (PySem.W.ktu_apart s1.heap.objs.size a b la lb), ⟨hz, hTI, ⟨_, _, hTO⟩, j1 _ _ h1, j2 _ _ h2⟩, fresh5, q⟩
end L2
namespace Iv
open PySem L2
/-- shut off from the kernel's eagerness -/
noncomputable def shut (f : SF) : SF := Classical.choose (⟨f, rfl⟩ : ∃ g : SF, g = f)
theorem shut_eq (f : SF) : shut f = f := Classical.choose_spec (⟨f, rfl⟩ : ∃ g : SF, g = f)
theorem sv_seal {X : Cx} {E : Str → Hp → Prop} {e : List Stmt} {f : SF} (h : PSsv X E e f) : PSsv X E e (shut f) := by
  rw [shut_eq]
  exact h
theorem zipW_length : ∀ xs ys : List W, (zipW xs ys).length = min xs.length ys.length
  | [], ys => by simp [zipW]
  | x :: xs, [] => by simp [zipW]
  | x :: xs, y :: ys => by simp [zipW, zipW_length xs ys]
theorem zipW_get : ∀ (xs ys : List W) (i : Nat) (x y : W), xs[i]? = some x → ys[i]? = some y → (zipW xs ys)[i]? = some (.tup [x, y])
  | [], _, _, _, _, h, _ => by simp at h
  | _ :: _, [], _, _, _, _, h => by simp at h
  | _ :: _, _ :: _, 0, _, _, h, h' => by
    simp at h h'
    subst h h'
    rfl
  | _ :: xs, _ :: ys, i + 1, x, y, h, h' => by
    simp only [zipW, List.getElem?_cons_succ]
    exact zipW_get xs ys i x y (by simpa using h) (by simpa using h')
section
variable {K : PySem.W.Frag} {m : Own} {H : Hp}
/-- what stands still, as it lies there -/
theorem still_at {v : V} {w : W} {ws : List W} (r : RepW K m H v w) (h : stillOf w = some ws) : ∃ k a vs, v = .ref a ∧ RepWs K m H vs ws ∧ ∀ m' H', Grw m H m' H' → SqA K k H' a vs := by
  cases r with
  | tup h1 h2 =>
    simp only [stillOf, Option.some.injEq] at h
    subst h
    exact ⟨false, _, _, rfl, h2, fun m' H' g => (h1.step g).sq⟩
  | lst h1 h2 =>
    simp only [stillOf, Option.some.injEq] at h
    subst h
    exact ⟨true, _, _, rfl, h2, fun m' H' g => (h1.step g).sq⟩
  | @scr a ns h1 =>
    simp only [stillOf, Option.some.injEq] at h
    subst h
    exact ⟨true, _, _, rfl, repInts ns, fun m' H' g => (h1.step g).sq⟩
  | _ => simp [stillOf] at h
theorem itok_zip {k k' : Bool} {a b : Addr} {vs us : List V} {xs ys : List W} (q : ∀ m' H', Grw m H m' H' → SqA K k H' a vs) (q' : ∀ m' H', Grw m H m' H' → SqA K k' H' b us) (r : RepWs K m H vs xs) (r' : RepWs K m H us ys) : ItOk K m H (ItzA K k k' a b) (zipW xs ys) where
  go := fun m' H' g i hi => by
    rw [zipW_length] at hi
    have h1 : i < vs.length := by rw [r.length]; omega
    have h2 : i < us.length := by rw [r'.length]; omega
    exact ⟨vs, us, vs[i], us[i], q m' H' g, q' m' H' g, List.getElem?_eq_getElem h1, List.getElem?_eq_getElem h2⟩
  stop := fun m' H' g i hi => by
    rw [zipW_length] at hi
    have l1 := r.length
    have l2 := r'.length
    exact ⟨vs, us, q m' H' g, q' m' H' g, by omega, by omega, by omega⟩
  yld := fun m' H' S' g rs i x H'' hi y => by
    obtain ⟨T, ob, x1, y1, rfl, hT, hc, hd, rfl, f1, f2⟩ := y
    obtain ⟨w1, e1, r1⟩ := r.get' i x1 (f1 vs (q m' H' g))
    obtain ⟨w2, e2, r2⟩ := r'.get' i y1 (f2 us (q' m' H' g))
    exact ⟨rs.allocS hT, rs.alloc hT, _, zipW_get xs ys i w1 w2 e1 e2, newTup rs hT hc hd (.cons (r1.step g) (.cons (r2.step g) .nil))⟩
end
section
variable {X : Cx} {E : Str → Hp → Prop} {a b : Expr} {fa : AF}
theorem iv_zp {p pos tpos : Pos} {elts : List Expr} {kk : Nat} (hg : Gl X "zip") (hm : X.mg "zip" = none) (ha : PAv X E [a, b] fa) (hs : starEach [a, b] X.env = (false, eval a X.env) :: starEach [b] X.env := by rfl) (hpl : (backTo pos (starEach [b] X.env)).any (·.1) = false := by rfl) :
    PIv X E (.Tuple elts kk tpos) (.Call (.Name "zip" p) [a, b] [] pos) (iZp fa) := (pi_zipS hg hm ha hs hpl).weak fun σ H R ⟨m, d, S, he, hs, hp⟩ => by
  refine ⟨m, d, S, he, hs, Post.bind hp fun ws S1 m1 H1 s1 r1 h1 vs rv => ?_⟩
  split at h1
  · split at h1
    · rename_i x y xs ys e1 e2
      cases rv with
      | cons h2 h3 => cases h3 with
        | cons h4 h5 =>
          cases h5
          obtain ⟨k, a, vs, rfl, rv, q⟩ := still_at h2 e1
          obtain ⟨k', b, us, rfl, ru, q'⟩ := still_at h4 e2
          exact ⟨k, k', a, b, vs, us, rfl, q _ _ Grw.refl, q' _ _ Grw.refl, h1.ok r1 _ (itok_zip q q' rv ru)⟩
    · exact h1.elim
  · exact h1.elim
end
/-! ### for over a list that may change -/
def forMF (kk : Nat) (g : GF) (b : SF) : Nat → Nat → En → Store → Res Out
  | 0, _, _, _ => .bad
  | n + 1, i, d, S => match S[kk]? with
    | some (.L ws) => match ws[i]? with
      | some w => (g w d S).bind fun d1 S1 => (b d1 S1).bind fun o S2 => match o with
        | .nx d2 => forMF kk g b n (i + 1) d2 S2
        | .ct d2 => forMF kk g b n (i + 1) d2 S2
        | .bk d2 => .ok (.nx d2) S2
        | .rt w => .ok (.rt w) S2
      | none => .ok (.nx d) S
    | _ => .bad
def sForM (n : Nat) (f : EF) (g : GF) (b : SF) : SF := fun d S => (f d S).bind fun x S1 => match x with
  | .mt k => forMF k g b n 0 d S1
  | _ => .bad
section
variable {X : Cx} {E : Str → Hp → Prop} {tg iter : Expr} {body : List Stmt} {f : EF} {g : GF} {s : SF} {pos : Pos} {n : Nat}
theorem sv_forM (hp : PassesOwn (model X.prog X.w) X.A X.env X.xe) (hc : X.calm = true) (hi : PEv X E iter f) (hg : PGv X E tg g) (hb : PSsv X E body s) (hst : ∀ x, foldedSetIterable iter X.env x = pure x := by intro _; rfl) :
    PSv X E (.For tg iter body [] pos) (sForM n f g s) := (ps_for hp hc (pi_seq hi) hg hb hst).weak fun D σ H ⟨m, d, S, he, hs, hp⟩ => by
  refine ⟨m, d, S, he, hs, Post.bind hp fun x S1 m1 H1 s1 r1 h1 v rv => ?_⟩
  cases rv with
  | @mt kk a l em =>
    have tr : ∀ (m' : Own) (H' : Hp) (S' : Store) (ws : List W) (l' : List Addr), RepS X.K m' H' S' → m'.ms[kk]? = some (a :: l') → S'[kk]? = some (.L ws) → ∃ vs, SqL X.K H' a vs ∧ RepWs X.K m' H' vs ws := fun m' H' S' ws l' rs e1 e2 => by
      obtain ⟨a', l'', e3, _, vs, hH, hr⟩ := rs.obj kk _ e2
      rw [e1] at e3
      cases e3
      exact ⟨vs, .inl (.inl hH), hr⟩
    have st : ∃ ws, S1[kk]? = some (.L ws) := by
      obtain ⟨o, a', l', e1, _, _⟩ := r1.get em
      cases o with
      | L ws => exact ⟨ws, e1⟩
      | D ws =>
        exfalso
        cases n with
        | zero => exact h1.elim
        | succ n =>
          simp only [forMF, e1] at h1
          exact h1.elim
      | I ws =>
        exfalso
        cases n with
        | zero => exact h1.elim
        | succ n =>
          simp only [forMF, e1] at h1
          exact h1.elim
      | E c =>
        exfalso
        cases n with
        | zero => exact h1.elim
        | succ n =>
          simp only [forMF, e1] at h1
          exact h1.elim
    obtain ⟨ws0, e0⟩ := st
    obtain ⟨vs0, q0, _⟩ := tr m1 H1 S1 ws0 l r1 em e0
    refine ⟨a, rfl, .inl ⟨⟨vs0, q0⟩, ?_⟩⟩
    refine ⟨fun i k σ H => ∃ m d S l', RepE X.K m H σ d ∧ RepS X.K m H S ∧ m.ms[kk]? = some (a :: l') ∧ Post X.K E m H (forMF kk g s k i d S) (CS X.K D),
      ⟨n, m1, d, S1, l, he.step s1.g, r1, em, h1⟩, ?_⟩
    rintro i k σ H2 ⟨m2, d2, S2, l2, he2, r2, em2, h2⟩
    cases k with
    | zero => exact h2.elim
    | succ k =>
      unfold forMF at h2
      split at h2
      · rename_i ws e1
        obtain ⟨vs, q, rv⟩ := tr m2 H2 S2 ws l2 r2 em2 e1
        split at h2
        · rename_i w ew
          obtain ⟨v, ev, rv'⟩ := rv.get i w ew
          refine .inr ⟨⟨vs, v, q, ev⟩, fun σ H => ∃ m d S l', RepE X.K m H σ d ∧ RepS X.K m H S ∧ m.ms[kk]? = some (a :: l') ∧ Post X.K E m H (forMF kk g s k (i + 1) d S) (CS X.K D), fun σ' H' h' => ⟨k, Nat.lt_succ_self k, h'⟩, fun x H3 y => ?_⟩
          obtain ⟨e3, y⟩ := y
          subst e3
          have ex : x = v := by
            have := y vs q
            rw [ev] at this
            exact (Option.some.inj this).symm
          subst ex
          refine ⟨m2, w, d2, S2, he2, r2, rv', Post.bind h2 fun d4 S4 m4 H4 s4 r4 h4 σ4 he4 => ?_⟩
          refine ⟨m4, d4, S4, he4, r4, Post.bind h4 fun o S5 m5 H5 s5 r5 h5 => ?_⟩
          obtain ⟨l5, e5⟩ := (s4.trans s5).g.pre kk a l2 em2
          cases o with
          | nx d6 => exact fun σ6 he6 => ⟨m5, d6, S5, l5, he6, r5, e5, h5⟩
          | ct d6 => exact fun σ6 he6 => ⟨m5, d6, S5, l5, he6, r5, e5, h5⟩
          | bk d6 => exact h5.ok r5
          | rt w => exact h5.ok r5
        · rename_i ew
          refine .inl ⟨⟨vs, q, ?_⟩, h2.ok r2 σ he2⟩
          rw [rv.length]
          exact List.getElem?_eq_none_iff.mp ew
      · exact h2.elim
  | _ => exact h1.elim
end
end Iv
end
section
set_option maxHeartbeats 2000000
set_option maxRecDepth 100000
/-! ### enumerate of a list or a tuple -/
namespace L2
open PySem PySem.Spec PyProof.Rows
theorem meets_en1 {v : Value} {o : Obj} {B : Heap → Prop} (b : Begins v o B) : Meets (Builtin.«enumerate.__new__» ⟨[.type "enumerate", v], []⟩) (fun _ R s => B s.heap ∧
    R (.ok (.ret (.ref (s.heap.push o).objs.size))) { s with heap := (s.heap.push o).push { cls := .type "enumerate", data := .fields #[.none, .bool false, .ref s.heap.objs.size, rawInt 0, .none, .none] } }) :=
  .of_wp fun prog w A R s q => by
    obtain ⟨hp, g, d, tk, os⟩ := s
    obtain ⟨h1, h⟩ := q
    have su := sub_enumerate
    have st : ∀ {A' : Around} {E : Value → Shared → Prop} {Q : Value → Shared → Prop}, Q (.ref hp.objs.size) ⟨hp.push o, g, d, tk, os⟩ → wpAny (model prog w) A' (pyIter v) Q E ⟨hp, g, d, tk, os⟩ := fun q => b.iter prog w _ _ ⟨hp, g, d, tk, os⟩ _ h1 q
    wp_walk using st
    refine wpAny_stack_any fun z => wpAny_pure ?_
    split
    · rename_i c _ _ _ _ _
      cases (c == Value.type "enumerate") <;> (wp_walk using st; exact ⟨_, rfl, h⟩)
    · wp_walk using st
      exact ⟨_, rfl, h⟩
theorem en_begins {prog : Program} {w : World} {A : Around} {E : Value → Shared → Prop} {s : Shared} {v : Value} {o : Obj} {B : Heap → Prop} {Q : Value → Shared → Prop} (b : Begins v o B) (h1 : B s.heap)
    (h : ∀ h', IsEnum h' (s.heap.objs.size + 1) s.heap.objs.size 0 .none → h'.get? s.heap.objs.size = some o → (∀ c ob, s.heap.get? c = some ob → h'.get? c = some ob) → Q (.ref (s.heap.objs.size + 1)) { s with heap := h' }) :
    wpAny (model prog w) A (call (.type "enumerate") [v]) Q E s := by
  refine callType_new F.called_enumerate (by decide) (F.typeCall_enumerate_1 _) (F.newCall_enumerate_1 _) (fun obj => F.args_object_init_2 obj _) F.entry_enumerate_new (meets_en1 b) ⟨h1, ?_⟩
  have z : (s.heap.push o).objs.size = s.heap.objs.size + 1 := Heap.size_push ..
  have g : IsEnum ((s.heap.push o).push { cls := .type "enumerate", data := .fields #[.none, .bool false, .ref s.heap.objs.size, rawInt 0, .none, .none] }) (s.heap.objs.size + 1) s.heap.objs.size 0 .none := by
    rw [← z]
    exact Heap.get?_push_size _ rfl
  show _ ∧ _
  rw [z]
  exact ⟨⟨_, g, rfl⟩, h _ g (Heap.get?_push_of_some _ (Heap.get?_push_size _ b.free)) fun c ob e => Heap.get?_push_of_some _ (Heap.get?_push_of_some _ e)⟩
/-- a sequence as it stands at each turn, its items in new pairs with their places -/
def ItnA (K : PySem.W.Frag) (k : Bool) (a : Addr) : It :=
  ⟨fun i H => ∃ (xs : List V) (x : V), SqA K k H a xs ∧ xs[i]? = some x,
    fun i H v H' => ∃ T ob x, v = .ref T ∧ H T = none ∧ ob.cls = .type "tuple" ∧ ob.dict = none ∧ H' = upd H T (.frz ob (.tup [.int (i : Nat), x])) ∧ ∀ xs, SqA K k H a xs → xs[i]? = some x,
    fun i H => ∃ xs : List V, SqA K k H a xs ∧ i = xs.length⟩
theorem turn_enA {P : Program} {w : World} {K : PySem.W.Frag} {elts : List Expr} {kk : Nat} {tpos : Pos} {k : Bool} {a e it : Addr} (ne : e ≠ it) (ae : a ≠ e) (ai : a ≠ it) :
    Turn P w K (.Tuple elts kk tpos) (ItnA K k a) [e, it] e (fun i h => (∃ old, IsEnum h e it ((i : Nat) : Int) old) ∧ IsIt k h it a i) where
  mem := List.mem_cons_self
  obj := fun i h st c hc => by
    obtain ⟨⟨old, he⟩, h1⟩ := st
    rcases (by simpa using hc : c = e ∨ c = it) with q | q
    · rw [q]; exact ⟨_, he, fun v q => nomatch q⟩
    · rw [q]; exact h1.ob
  keep := fun i h h' st q => by
    obtain ⟨⟨old, he⟩, h1⟩ := st
    exact ⟨⟨old, q e (by simp) _ he⟩, h1.at fun o e => q it (by simp) o e⟩
  item := by
    intro X hP hw hK hc i pins s σ H E I hf st hg
    subst hP hw hK
    obtain ⟨⟨old, he⟩, h1⟩ := st
    obtain ⟨xs, x, hq, hx⟩ := hg
    obtain ⟨its, rv, la, s1⟩ := StA.mk I hq h1
    obtain ⟨u, hu, ru⟩ := rv.get hx
    have lt : e < s.heap.objs.size := Heap.lt_size he
    have li : it < s.heap.objs.size := by
      obtain ⟨_, q, _⟩ := h1.ob
      exact Heap.lt_size q
    have hh : X.A.in1.handled = none := I.ok.hd hc
    have ef : e ∉ [it, a] := by simp [ne, Ne.symm ae]
    have hi : i < its.toArray.size := by simpa using (List.getElem?_eq_some_iff.mp hu).1
    refine wpAny_pyNext_enum_itemD (drawsA hh k it a ai its.toArray) he s1 hi ne ef fun x1 h' tk p1 ho t1 hT hsz hk => ?_
    have e1 : x1 = u := by
      have q : its.toArray[i]? = some u := by simpa using hu
      rw [q] at p1
      exact (Option.some.inj p1).symm
    subst e1
    refine ⟨_, rfl, wpAny_letOwnedTupleGo_enum (s := { s with heap := h', toks := tk + 1 }) ho fun h'' he' sb => ?_⟩
    have hT2 : h''.get? s.heap.objs.size = some { cls := .type "tuple", data := .seq #[.int i tk, x1] } := (sb.2 _ (Nat.ne_of_gt lt)).trans hT
    have new : ObjOk X.prog X.w (upd H s.heap.objs.size (.frz { cls := .type "tuple", data := .seq #[.int i tk, x1] } (.tup [.int (i : Nat), x]))) h'' s.heap.objs.size (.frz { cls := .type "tuple", data := .seq #[.int i tk, x1] } (.tup [.int (i : Nat), x])) :=
      ⟨hT2, by show 2 ≤ sizeLine; decide, [.int i tk, x1], .cons ⟨_, rfl⟩ (.cons ru .nil), ⟨_, hT2, rfl, _, rfl⟩⟩
    have I1 := I.turnedNew (t' := tk + 1) (ch := [e, it]) (h' := h'') (fun c o hb q => (sb.2 c (fun z => hb (by simp [z]))).trans (hk c o (fun z => hb (by simp [z])) (fun z => hb (by simp [z])) q)) hf (Nat.le_refl _) new
    refine ⟨.ref s.heap.objs.size, _, I1, rfl, ⟨_, _, x, rfl, I.hok.fresh (Nat.le_refl _), rfl, rfl, rfl, fun l hl => by rw [SqA.inj I hl hq]; exact hx⟩, ⟨⟨x1, ?_⟩, t1.it.at fun o q => (sb.2 it (Ne.symm ne)).trans q⟩, fun c hcm => ?_⟩
    · rw [show ((i + 1 : Nat) : Int) = (i : Int) + 1 by omega]
      exact he'
    · have hb : c < s.heap.objs.size := by
        rcases (by simpa using hcm : c = e ∨ c = it) with z | z
        · rw [z]; exact lt
        · rw [z]; exact li
      rw [upd_ne (Nat.ne_of_lt hb)]
      exact (hf c hcm).1
  done := by
    intro X hP hw hK hc i pins s σ H E I hf st hg
    subst hP hw hK
    obtain ⟨⟨old, he⟩, h1⟩ := st
    obtain ⟨xs, hq, hx⟩ := hg
    obtain ⟨its, rv, la, s1⟩ := StA.mk I hq h1
    have hl := rv.length
    have hh : X.A.in1.handled = none := I.ok.hd hc
    have en : i = its.toArray.size := by simp; omega
    refine wpAny_pyNext_enum_endD (drawsA hh k it a ai its.toArray) he (by rw [← en]; exact s1) fun h' hx => ⟨rfl, ?_⟩
    exact I.turnedL (t' := s.toks) (ch := [e, it]) (fun c o hb q => hx c o (fun z => hb (by simp [z])) q) hf
  self := fun A i s Q E st h => let ⟨⟨_, he⟩, _⟩ := st; wpAny_pyIter_enum he h
def iEnS (K : PySem.W.Frag) (ta : TA) : TI := fun σ H R => ta σ H fun vs H1 => ∃ k a xs, vs = [.ref a] ∧ SqA K k H1 a xs ∧ R (ItnA K k a) H1
theorem pi_enS {X : Cx} {e : Expr} {ta : TA} {p pos tpos : Pos} {elts : List Expr} {kk : Nat} (hg : Gl X "enumerate") (hm : X.mg "enumerate" = none) (ha : PA X [e] ta) (hs : starEach [e] X.env = [(false, eval e X.env)] := by rfl) :
    PI X (.Tuple elts kk tpos) (.Call (.Name "enumerate" p) [e] [] pos) (iEnS X.K ta) := ⟨fun pins s σ H R I h => by
  refine Call_ (ld_blt I hg hm boot_enumerate (PyProof.Rows.callWith_type1 (thn (ha.run pos pins s σ H _ I h) fun us s1 ⟨vs, H1, I1, r1, q1⟩ => ?_) hs rfl))
  obtain ⟨k, a, xs, ex, hq, q⟩ := q1
  subst ex
  cases r1 with
  | cons r rr =>
    cases rr
    cases r
    obtain ⟨o, B, b, c, la, j⟩ := beginsA I1 hq
    refine en_begins b c fun h' he ho hk => wpAny_pyIter_enum he ?_
    have I2 : Inv X pins σ H1 { s1 with heap := h' } := I1.kept (t' := s1.toks) hk
    refine ⟨s1.heap.objs.size + 1, [s1.heap.objs.size + 1, s1.heap.objs.size], _, _, H1, rfl, I2, turn_enA (Nat.succ_ne_self _) (Nat.ne_of_lt (Nat.lt_succ_of_lt la)) (Nat.ne_of_lt la), ⟨⟨.none, he⟩, j _ _ ho⟩, fun c hc => ?_, q⟩
    have hle : s1.heap.objs.size ≤ c := by
      rcases (by simpa using hc : c = s1.heap.objs.size + 1 ∨ c = s1.heap.objs.size) with z | z
      · rw [z]; exact Nat.le_succ _
      · rw [z]; exact Nat.le_refl _
    exact I1.fpOk hle (I1.hok.fresh hle)⟩
/-! ### l.count(x), x in a tuple of data -/
section
variable {X : Cx}
def rCntD (K : PySem.W.Frag) : V → List V → Hp → VK → Prop := fun x xs H Q => ∃ (a : Addr) (y : V) (d : PyData) (ds : List PyData), x = .ref a ∧ xs = [y] ∧ Dp K H (.ref a) (.list ds) ∧ Dp K H y d ∧ SeqAt.shaped (.list ds) = true ∧ SeqAt.shaped d = true ∧ PyData.plainAll ds = true ∧ d.plain = true ∧ Q (.int ((ds.countP fun z => PyData.eqv z d : Nat) : Int)) H
theorem mt_cntD (hu : X.A.units + 65 < cLine) : MtR X "list.count" (rCntD X.K) := fun pins s σ H x xs v us Q I rx rxs h => by
  obtain ⟨a, y, d, ds, rfl, rfl, hl, hy, sl, sd, pl, pd, q⟩ := h
  cases rx
  obtain ⟨uy, rfl, ry⟩ := vals1 rxs
  obtain ⟨bs, r1⟩ := Dp.reads I d y uy hy ry
  cases hl with
  | lst hs ha =>
    obtain ⟨its, rv, p, _⟩ := I.list hs
    obtain ⟨as, h4⟩ := Dp.readsAll I ds _ its ha rv
    exact SeqAt.count_list_data p.isList (by simpa using h4) r1 pl pd (room_in_shaped sd hu) ⟨.int _, H, I.tok _, ⟨_, rfl⟩, q⟩
def rInTD (b : Bool) (K : PySem.W.Frag) : R2 := fun x y H Q => ∃ d ds, Dp K H x d ∧ Dp K H y (.tuple ds) ∧ SeqAt.shaped d = true ∧ PyData.plainAll ds = true ∧ d.plain = true ∧ Q (.bl (xor b (ds.any fun z => PyData.eqv z d))) H
theorem op_inTD (hu : X.A.units + 65 < cLine) : OpR X (compareOp .In) (rInTD false X.K) := fun pins s σ H x y v u Q I rx ry h => by
  obtain ⟨d, ds, hd, he, sd, pl, pd, q⟩ := h
  obtain ⟨as, r1⟩ := Dp.reads I d x v hd rx
  obtain ⟨bs, r2⟩ := Dp.reads I (.tuple ds) y u he ry
  exact SeqAt.in_tuple_data r2 r1 pl pd (room_in_shaped sd hu) ⟨.bl _, H, I, rfl, by rw [Bool.false_xor] at q; exact q⟩
theorem op_ninTD (hu : X.A.units + 65 < cLine) : OpR X (compareOp .NotIn) (rInTD true X.K) := fun pins s σ H x y v u Q I rx ry h => by
  obtain ⟨d, ds, hd, he, sd, pl, pd, q⟩ := h
  obtain ⟨as, r1⟩ := Dp.reads I d x v hd rx
  obtain ⟨bs, r2⟩ := Dp.reads I (.tuple ds) y u he ry
  exact SeqAt.notIn_tuple_data r2 r1 pl pd (room_in_shaped sd hu) ⟨.bl _, H, I, rfl, by rw [Bool.true_xor] at q; exact q⟩
end
end L2
namespace Iv
open PySem L2
/-! ### enumerate -/
def enW : Nat → List W → List W
  | _, [] => []
  | n, x :: xs => .tup [.int (n : Nat), x] :: enW (n + 1) xs
def iEn (a : AF) : IF := fun d S => (a d S).bind fun ws S1 => match ws with
  | [x] => match stillOf x with
    | some xs => .ok (enW 0 xs) S1
    | none => .bad
  | _ => .bad
theorem enW_length : ∀ (xs : List W) (n : Nat), (enW n xs).length = xs.length
  | [], _ => rfl
  | x :: xs, n => by simp [enW, enW_length xs]
theorem enW_get : ∀ (xs : List W) (n i : Nat) (x : W), xs[i]? = some x → (enW n xs)[i]? = some (.tup [.int ((n + i : Nat) : Int), x])
  | [], _, _, _, h => by simp at h
  | y :: xs, n, 0, x, h => by
    simp at h
    subst h
    rfl
  | y :: xs, n, i + 1, x, h => by
    simp only [enW, List.getElem?_cons_succ]
    rw [enW_get xs (n + 1) i x (by simpa using h)]
    congr 4
    omega
theorem itok_en {K : PySem.W.Frag} {m : Own} {H : Hp} {k : Bool} {a : Addr} {vs : List V} {xs : List W} (q : ∀ m' H', Grw m H m' H' → SqA K k H' a vs) (r : RepWs K m H vs xs) : ItOk K m H (ItnA K k a) (enW 0 xs) where
  go := fun m' H' g i hi => by
    rw [enW_length] at hi
    have h1 : i < vs.length := by rw [r.length]; exact hi
    exact ⟨vs, vs[i], q m' H' g, List.getElem?_eq_getElem h1⟩
  stop := fun m' H' g i hi => by
    rw [enW_length] at hi
    exact ⟨vs, q m' H' g, by rw [r.length]; exact hi⟩
  yld := fun m' H' S' g rs i x H'' hi y => by
    obtain ⟨T, ob, x1, rfl, hT, hc, hd, rfl, f1⟩ := y
    obtain ⟨w1, e1, r1⟩ := r.get' i x1 (f1 vs (q m' H' g))
    have e2 := enW_get xs 0 i w1 e1
    rw [Nat.zero_add] at e2
    exact ⟨rs.allocS hT, rs.alloc hT, _, e2, newTup rs hT hc hd (.cons (.int _) (.cons (r1.step g) .nil))⟩
section
variable {X : Cx} {E : Str → Hp → Prop} {a : Expr} {fa : AF}
theorem iv_en {p pos tpos : Pos} {elts : List Expr} {kk : Nat} (hg : Gl X "enumerate") (hm : X.mg "enumerate" = none) (ha : PAv X E [a] fa) (hs : starEach [a] X.env = [(false, eval a X.env)] := by rfl) :
    PIv X E (.Tuple elts kk tpos) (.Call (.Name "enumerate" p) [a] [] pos) (iEn fa) := (pi_enS hg hm ha hs).weak fun σ H R ⟨m, d, S, he, hs, hp⟩ => by
  refine ⟨m, d, S, he, hs, Post.bind hp fun ws S1 m1 H1 s1 r1 h1 vs rv => ?_⟩
  split at h1
  · split at h1
    · rename_i x xs e1
      cases rv with
      | cons h2 h3 =>
        cases h3
        obtain ⟨k, a, vs, rfl, rv, q⟩ := still_at h2 e1
        exact ⟨k, a, vs, rfl, q _ _ Grw.refl, h1.ok r1 _ (itok_en q rv)⟩
    · exact h1.elim
  · exact h1.elim
end
/-! ### l.count(x), l.index(x) -/
def mCount (x : W) (ws : List W) (S : Store) : Res W := match ws with
  | [y] => match datS x S, dat y with
    | some (.list ds), some d => if (SeqAt.shaped (.list ds) && SeqAt.shaped d && PyData.plainAll ds && d.plain) = true then .ok (.int ((ds.countP fun z => PyData.eqv z d : Nat) : Int)) S else .bad
    | _, _ => .bad
  | _ => .bad
def mIndex (x : W) (ws : List W) (S : Store) : Res W := match ws with
  | [y] => match datS x S, dat y with
    | some (.list ds), some d => if (SeqAt.shaped (.list ds) && SeqAt.shaped d) = true then (match ds.findIdx? fun z => PyData.eqv z d with
      | some j => .ok (.int (j : Nat)) S
      | none => .bad) else .bad
    | _, _ => .bad
  | _ => .bad
section
variable {X : Cx} {E : Str → Hp → Prop}
theorem cnt_ok {K : PySem.W.Frag} (x : V) (xs : List V) (H : Hp) (Q : VK) (q : rM K E mCount x xs H Q) : rCntD K x xs H Q := by
  obtain ⟨m, wx, ws, S, rs, rx, rw', hp⟩ := q
  unfold mCount at hp
  split at hp
  · split at hp
    · rename_i y ds d e1 e2
      split at hp
      · rename_i hs
        simp only [Bool.and_eq_true] at hs
        cases rw' with
        | cons q1 q2 =>
          cases q2
          have d1 := rx.dpS rs e1
          have d2 := q1.dp e2
          cases d1 with
          | lst a1 a2 => exact ⟨_, _, d, ds, rfl, rfl, .lst a1 a2, d2, hs.1.1.1, hs.1.1.2, hs.1.2, hs.2, hp.ok rs _ (.int _)⟩
      · exact hp.elim
    · exact hp.elim
  · exact hp.elim
theorem idx_ok {K : PySem.W.Frag} (x : V) (xs : List V) (H : Hp) (Q : VK) (q : rM K E mIndex x xs H Q) : rIndexD K x xs H Q := by
  obtain ⟨m, wx, ws, S, rs, rx, rw', hp⟩ := q
  unfold mIndex at hp
  split at hp
  · split at hp
    · rename_i y ds d e1 e2
      split at hp
      · rename_i hs
        simp only [Bool.and_eq_true] at hs
        split at hp
        · rename_i j ej
          cases rw' with
          | cons q1 q2 =>
            cases q2
            have d1 := rx.dpS rs e1
            have d2 := q1.dp e2
            obtain ⟨f1, f2, f3⟩ := List.findIdx?_eq_some_iff_getElem.mp ej
            cases d1 with
            | lst a1 a2 =>
              refine ⟨_, _, d, ds, j, ds[j], rfl, rfl, .lst a1 a2, d2, hs.1, hs.2, List.getElem?_eq_getElem f1, f2, fun i z hi ez => ?_, hp.ok rs _ (.int _)⟩
              have il : i < ds.length := (List.getElem?_eq_some_iff.mp ez).1
              rw [List.getElem?_eq_getElem il] at ez
              cases ez
              simpa using f3 i hi
        · exact hp.elim
      · exact hp.elim
    · exact hp.elim
  · exact hp.elim
/-! ### x in a tuple of data -/
def inT (x y : W) (S : Store) : Option Bool := match datS x S, y with
  | some d, .tup ws => match datL ws with
    | some ds => if (SeqAt.shaped d && PyData.plainAll ds && d.plain) = true then some (ds.any fun z => PyData.eqv z d) else none
    | none => none
  | _, _ => none
def wInT (x y : W) (S : Store) : Res W := match inT x y S with
  | some b => .ok (.bl b) S
  | none => .bad
def wNotInT (x y : W) (S : Store) : Res W := match inT x y S with
  | some b => .ok (.bl (!b)) S
  | none => .bad
theorem inT_ok {K : PySem.W.Frag} {m : Own} {H : Hp} {S : Store} {x y : V} {wx wy : W} {b : Bool} (rs : RepS K m H S) (rx : RepW K m H x wx) (ry : RepW K m H y wy) (h : inT wx wy S = some b) : ∃ d ds, Dp K H x d ∧ Dp K H y (.tuple ds) ∧ SeqAt.shaped d = true ∧ PyData.plainAll ds = true ∧ d.plain = true ∧ b = ds.any fun z => PyData.eqv z d := by
  unfold inT at h
  split at h
  · rename_i d ws e1
    split at h
    · rename_i ds e2
      split at h
      · rename_i hs
        simp only [Bool.and_eq_true] at hs
        cases h
        exact ⟨d, ds, rx.dpS rs e1, ry.dp (by simp [dat, e2]), hs.1.1, hs.1.2, hs.2, rfl⟩
      · cases h
    · cases h
  · cases h
theorem o_inT (hu : X.A.units + 65 < cLine) : OpR X (compareOp .In) (rO X.K E wInT) := (op_inTD hu).weak fun x y H Q ⟨m, wx, wy, S, rs, rx, ry, hp⟩ => by
  unfold wInT at hp
  split at hp
  · rename_i b e
    obtain ⟨d, ds, h1, h2, h3, h4, h5, rfl⟩ := inT_ok rs rx ry e
    exact ⟨d, ds, h1, h2, h3, h4, h5, by rw [Bool.false_xor]; exact hp.ok rs _ (.bl _)⟩
  · exact hp.elim
theorem o_notinT (hu : X.A.units + 65 < cLine) : OpR X (compareOp .NotIn) (rO X.K E wNotInT) := (op_ninTD hu).weak fun x y H Q ⟨m, wx, wy, S, rs, rx, ry, hp⟩ => by
  unfold wNotInT at hp
  split at hp
  · rename_i b e
    obtain ⟨d, ds, h1, h2, h3, h4, h5, rfl⟩ := inT_ok rs rx ry e
    exact ⟨d, ds, h1, h2, h3, h4, h5, by rw [Bool.true_xor]; exact hp.ok rs _ (.bl _)⟩
  · exact hp.elim
/-! ### a tuple of texts that the module holds -/
def GTup (K : PySem.W.Frag) (mg : Str → Option Value) (x : Str) (ss : List Str) : Prop := ∃ a, mg x = some (.ref a) ∧ KT K a (ss.map V.str)
def KS : List Str := ["free", "flat", "bound"]
def strsW (ss : List Str) : List W := ss.map .str
theorem repStrs {K : PySem.W.Frag} {m : Own} {H : Hp} : ∀ ss : List Str, RepWs K m H (ss.map V.str) (strsW ss)
  | [] => .nil
  | s :: r => .cons (.str s) (repStrs r)
theorem ev_glob {x : Str} {ss : List Str} {pos : Pos} (h : GTup X.K X.mg x ss) (hg : Gl X x := by rfl) (hd : (x == ("__debug__" : Str)) = false := by decide) : PEv X E (.Name x pos) (eC (.tup (strsW ss))) := by
  obtain ⟨a, hm, hk⟩ := h
  refine (pe_glob (v := .ref a) hg hm rfl hd).weak fun σ H Q ⟨m, d, S, he, hs, hp⟩ => hp.ok hs _ (.tup (.inr hk) (repStrs ss))
end
/-! ### a comprehension over a list that may change -/
def lcMF (kk : Nat) (g : GF) (t : BF) (e : EF) (d0 : En) : Nat → Nat → Store → Res (List W)
  | 0, _, _ => .bad
  | n + 1, i, S => match S[kk]? with
    | some (.L ws) => match ws[i]? with
      | some w => (g w d0 S).bind fun d1 S1 => (t d1 S1).bind fun b S2 => if b = true then (e d1 S2).bind fun y S3 => (lcMF kk g t e d0 n (i + 1) S3).bind fun ys S4 => .ok (y :: ys) S4 else lcMF kk g t e d0 n (i + 1) S2
      | none => .ok [] S
    | _ => .bad
def eLcM (vs : List Nat) (f : EF) (g : GF) (t : BF) (e : EF) : EF := fun d S => (f d S).bind fun x S1 => match x with
  | .mt kk => match lcMF kk g t e (wipeE d vs) 100000 0 S1 with
    | .ok ys S2 => .ok (.lst ys) S2
    | _ => .bad
  | _ => .bad
theorem lcM_core {f : EF} {g : GF} {t : BF} {e : EF} {E : Str → Hp → Prop} {K : PySem.W.Frag} {σ : L2.St} {H : Hp} {Q : VK} {m : Own} {d : En} {S : Store} {vs : List Nat} (hE : RepE K m H σ d) (hS : RepS K m H S) (hp : Post K E m H (eLcM vs f g t e d S) (CV K Q)) :
    tLc (fun σ H R => rE K E f σ H fun x H1 => ∃ a, x = .ref a ∧ (((∃ xs, SqL K H1 a xs) ∧ R (Itl K a) H1) ∨ ((∃ xs, SqT K H1 a xs) ∧ R (Itt K a) H1))) (rGw K vs g) (rB K NoE t) (rE K NoE e) vs σ H Q := by
  refine ⟨m, d, S, hE, hS, Post.bind hp fun x S1 m1 H1 s1 r1 h1 v rv => ?_⟩
  cases rv with
  | @mt kk a l em =>
    have tr : ∀ (m' : Own) (H' : Hp) (S' : Store) (ws : List W) (l' : List Addr), RepS K m' H' S' → m'.ms[kk]? = some (a :: l') → S'[kk]? = some (.L ws) → ∃ us, SqL K H' a us ∧ RepWs K m' H' us ws := fun m' H' S' ws l' rs e1 e2 => by
      obtain ⟨a', l'', e3, _, us, hH, hr⟩ := rs.obj kk _ e2
      rw [e1] at e3
      cases e3
      exact ⟨us, .inl (.inl hH), hr⟩
    obtain ⟨o0, a0, l0, e00, e01, _⟩ := r1.get em
    cases o0 with
    | L ws0 =>
      obtain ⟨us0, q0, _⟩ := tr m1 H1 S1 ws0 l r1 em e00
      refine ⟨a, rfl, .inl ⟨⟨us0, q0⟩, fun D nD => ?_⟩⟩
      simp only at h1
      split at h1
      · rename_i ys Sf e0
        refine ⟨fun i k H' => ∃ m' S' accW ys' l', LcAt K m1 H1 D m' H' S' accW ∧ m'.ms[kk]? = some (a :: l') ∧ accW.length ≤ i ∧ i + k = 100000 ∧ lcMF kk g t e (wipeE d vs) k i S' = .ok ys' Sf ∧ accW ++ ys' = ys,
          ⟨100000, _, S1, [], ys, l, LcAt.start r1 nD, em, Nat.le_refl _, rfl, e0, rfl⟩, ?_⟩
        rintro i k H2 ⟨m2, S2, accW, ys', l2, L2', em2, la, hik, e2, e3⟩
        have g2 : Grw m1 H1 m2 H2 := (Grw.hide nD).trans L2'.grw
        cases k with
        | zero => cases e2
        | succ k =>
          unfold lcMF at e2
          split at e2
          · rename_i ws e5
            obtain ⟨us, q, rv⟩ := tr m2 H2 S2 ws l2 L2'.rs em2 e5
            split at e2
            · rename_i w ew
              obtain ⟨v, ev, rv'⟩ := rv.get i w ew
              refine .inr ⟨⟨us, v, q, ev⟩, fun H' => ∃ m' S' accW ys' l', LcAt K m1 H1 D m' H' S' accW ∧ m'.ms[kk]? = some (a :: l') ∧ accW.length ≤ i + 1 ∧ lcMF kk g t e (wipeE d vs) k (i + 1) S' = .ok ys' Sf ∧ accW ++ ys' = ys,
                fun H' ⟨m', S', aw, y', l', a1, a2, a3, a4, a5⟩ => ⟨k, Nat.lt_succ_self k, m', S', aw, y', l', a1, a2, a3, by omega, a4, a5⟩, fun x H3 y => ?_⟩
              obtain ⟨e6, y⟩ := y
              subst e6
              have ex : x = v := by
                have := y us q
                rw [ev] at this
                exact (Option.some.inj this).symm
              subst ex
              obtain ⟨d1, T1, q1, e2⟩ := bind_ok e2
              obtain ⟨b, T2, q2, e2⟩ := bind_ok e2
              refine ⟨m2, w, wipeE d vs, S2, (hE.wipe vs).step (s1.g.trans g2), L2'.rs, rv', post_ok q1 fun m4 H4 s4 r4 σ4 he4 wp => ⟨wp.trans (wipe_wipe vs), m4, d1, T1, he4, r4, post_ok q2 fun m5 H5 s5 r5 => ?_⟩⟩
              cases b with
              | false =>
                obtain ⟨l5, e7⟩ := (s4.trans s5).g.pre kk a l2 em2
                exact CB.ff ⟨m5, T2, accW, ys', l5, L2'.step (s4.trans s5) r5, e7, Nat.le_succ_of_le la, e2, e3⟩
              | true =>
                obtain ⟨z, T3, q3, e2⟩ := bind_ok e2
                obtain ⟨zs, T4, q4, e2⟩ := bind_ok e2
                refine CB.tt ⟨m5, d1, T2, he4.step s5.g, r5, post_ok q3 fun m6 H6 s6 r6 v rv => ?_⟩
                have L6 := L2'.step (s4.trans (s5.trans s6)) r6
                obtain ⟨acc, ea, ra⟩ := L6.acc
                obtain ⟨l6, e7⟩ := (s4.trans (s5.trans s6)).g.pre kk a l2 em2
                cases e2
                exact ⟨acc, ea, Nat.lt_of_le_of_lt (show acc.length ≤ 100000 by rw [ra.length]; omega) (by decide), m6, T3, accW ++ [z], zs, l6, L6.put r1 nD ea rv, e7, by simp; exact la, q4, by rw [List.append_assoc]; exact e3⟩
            · rename_i ew
              cases e2
              rw [List.append_nil] at e3
              subst e3
              obtain ⟨f1, f2, f3⟩ := L2'.fin r1 nD
              refine .inl ⟨⟨us, q, ?_⟩, h1 _ _ f1 f2 _ f3⟩
              rw [rv.length]
              exact List.getElem?_eq_none_iff.mp ew
          · cases e2
      · exact h1.elim
    | D ws0 =>
      simp only [lcMF, e00] at h1
      exact h1.elim
    | I ws0 =>
      simp only [lcMF, e00] at h1
      exact h1.elim
    | E ws0 =>
      simp only [lcMF, e00] at h1
      exact h1.elim
  | _ => exact h1.elim
section
variable {X : Cx} {E : Str → Hp → Prop} {elt tg iter : Expr} {ifs : List Expr} {scope : Scope} {own : List (Str × Nat)} {pos : Pos} {f : EF} {g : GF} {t : BF} {e : EF}
theorem ev_lcM (hc : X.calm = true) (hN : X.N.Nodup) (hi : PEv X E iter f) (ok : BlkOk X.N X.env.scope scope own)
    (hg : ∀ (s : Shared) (H : Hp) (C : Addr) (cl : List (Str × Addr)) (fp : List Addr), PGw (X.blk s H scope (compEnvC scope cl C X.env) fp) (own.map (·.2)) tg g) (ht : ∀ (s : Shared) (H : Hp) (C : Addr) (cl : List (Str × Addr)) (fp : List Addr), PTsv (X.blk s H scope (compEnvC scope cl C X.env) fp) NoE ifs t)
    (he : ∀ (s : Shared) (H : Hp) (C : Addr) (cl : List (Str × Addr)) (fp : List Addr), PEv (X.blk s H scope (compEnvC scope cl C X.env) fp) NoE elt e) (hs : ∀ x, foldedSetIterable iter X.env x = pure x := by intro _; rfl) :
    PEv X E (.ListComp elt [⟨tg, iter, ifs, 0⟩] scope pos) (eLcM (own.map (·.2)) f g t e) := (pe_lc hc hN (pi_seq hi) ok hg ht he hs).weak fun σ H Q ⟨m, d, S, hE, hS, hp⟩ => lcM_core hE hS hp
end
end Iv
end
section
set_option maxHeartbeats 2000000
set_option maxRecDepth 100000
namespace Iv
open PySem L2
/-! ### any new changeable object -/
section
variable {K : PySem.W.Frag} {m m' : Own} {H H' : Hp} {S S' : Store}
theorem upd_swap {p q : Addr} {a b : HO} (h : p ≠ q) : upd (upd H p a) q b = upd (upd H q b) p a := by
  funext x
  by_cases e : x = p
  · subst e
    rw [upd_ne h, upd_same, upd_same]
  · by_cases e2 : x = q
    · subst e2
      rw [upd_same, upd_ne e, upd_same]
    · rw [upd_ne e2, upd_ne e, upd_ne e, upd_ne e2]
theorem upd_upd {p : Addr} {a b : HO} : upd (upd H p a) p b = upd H p b := by
  funext x
  by_cases e : x = p
  · subst e
    rw [upd_same, upd_same]
  · rw [upd_ne e, upd_ne e, upd_ne e]
theorem RepS.pushO (h : RepS K m H S) {p : Addr} {o : HO} {u : MO} (np : H p = none) (r : RepO K (m.push p) (upd H p o) p [] u) : RepS K (m.push p) (upd H p o) (S ++ [u]) := by
  have b := h.push (ws := []) (vs := []) np .nil
  refine ⟨by simpa using b.len, fun k v e => ?_, b.disj, fun a ha => ?_, b.dish⟩
  · by_cases hk : k < S.length
    · rw [List.getElem?_append_left hk] at e
      obtain ⟨a, l, e1, q⟩ := h.obj k v e
      refine ⟨a, l, ?_, q.step (Grw.push np) fun c hc => ?_⟩
      · show (m.ms ++ [[p]])[k]? = _
        rw [List.getElem?_append_left (by rw [h.len]; exact hk)]
        exact e1
      · obtain ⟨w, hw⟩ := q.tracked c hc
        exact upd_ne (ne_of_none hw np)
    · have hk2 : k = S.length := by
        have := (List.getElem?_eq_some_iff.mp e).1
        simp at this
        omega
      subst hk2
      rw [List.getElem?_append_right (Nat.le_refl _)] at e
      simp at e
      subst e
      exact ⟨p, [], by
        show (m.ms ++ [[p]])[S.length]? = _
        rw [List.getElem?_append_right (by rw [h.len]; exact Nat.le_refl _)]; simp [h.len], r⟩
  · obtain ⟨w, hw⟩ := h.trk a ha
    exact ⟨w, by rw [upd_ne (ne_of_none hw np)]; exact hw⟩
end
/-! ### {k1: [], k2: [], k3: []} -/
def eDic3 (k1 k2 k3 : Str) : EF := fun _ S => .ok (.mt (S.length + 3)) (S ++ [.L [], .L [], .L [], .D [(k1, .mt S.length), (k2, .mt (S.length + 1)), (k3, .mt (S.length + 2))]])
section
variable {X : Cx} {E : Str → Hp → Prop} {pos : Pos}
theorem merge3 {k1 k2 k3 : Str} (h12 : k1 ≠ k2) (h13 : k1 ≠ k3) (h23 : k2 ≠ k3) (v1 v2 v3 : V) : mergeK [] [((Sum.inr k1 : Key), v1), (Sum.inr k2, v2), (Sum.inr k3, v3)] = [(Sum.inr k1, v1), (Sum.inr k2, v2), (Sum.inr k3, v3)] := by
  have e12 : ¬ (Sum.inr k1 : Key) = Sum.inr k2 := fun z => h12 (Sum.inr.inj z)
  have e13 : ¬ (Sum.inr k1 : Key) = Sum.inr k3 := fun z => h13 (Sum.inr.inj z)
  have e23 : ¬ (Sum.inr k2 : Key) = Sum.inr k3 := fun z => h23 (Sum.inr.inj z)
  simp [mergeK, putK, h12, h13, h23]
theorem ev_dic3 {k1 k2 k3 : Str} {j1 j2 j3 : Nat} {p1 p2 p3 q1 q2 q3 : Pos} (h12 : k1 ≠ k2) (h13 : k1 ≠ k3) (h23 : k2 ≠ k3) :
    PEv X E (.Dict [some (.Constant (.str k1) j1 p1), some (.Constant (.str k2) j2 p2), some (.Constant (.str k3) j3 p3)] [.List [] q1, .List [] q2, .List [] q3] pos) (eDic3 k1 k2 k3) := by
  refine (pe_disp (pps_cons pe_str (pe_lst pa_nil) (pps_cons pe_str (pe_lst pa_nil) (pps_cons pe_str (pe_lst pa_nil) pps_nil))) rfl rfl (by simp) (by simp)).weak fun σ H Q ⟨m, d, S, he, hs, hp⟩ => ?_
  intro p np
  refine ⟨by show 0 ≤ sizeLine; exact Nat.zero_le _, fun a na => ⟨by show 0 ≤ sizeLine; exact Nat.zero_le _, fun b nb => ⟨by show 0 ≤ sizeLine; exact Nat.zero_le _, fun c nc => ?_⟩⟩⟩
  have pa : p ≠ a := fun z => by rw [← z, upd_same] at na; cases na
  have pb : p ≠ b := fun z => by rw [← z, upd_ne pa, upd_same] at nb; cases nb
  have pc : p ≠ c := fun z => by rw [← z, upd_ne pb, upd_ne pa, upd_same] at nc; cases nc
  have na' : H a = none := by rw [upd_ne (Ne.symm pa)] at na; exact na
  have nb' : upd H a (.lst []) b = none := by
    rw [upd_swap pa, upd_ne (Ne.symm pb)] at nb
    exact nb
  have nc' : upd (upd H a (.lst [])) b (.lst []) c = none := by
    rw [upd_swap pa, upd_swap pb, upd_ne (Ne.symm pc)] at nc
    exact nc
  have np' : upd (upd (upd H a (.lst [])) b (.lst [])) c (.lst []) p = none := by rw [upd_ne pc, upd_ne pb, upd_ne pa]; exact np
  show (upd (upd (upd (upd H p (.dK [])) a (.lst [])) b (.lst [])) c (.lst []) p = some (.dK []) ∧ _)
  refine ⟨by rw [upd_ne pc, upd_ne pb, upd_ne pa, upd_same], [((Sum.inr k1 : Key), .ref a), (Sum.inr k2, .ref b), (Sum.inr k3, .ref c)], rfl, by simp, ?_⟩
  rw [merge3 h12 h13 h23, upd_swap pa, upd_swap pb, upd_swap pc, upd_upd]
  have r1 := hs.push (ws := []) (vs := []) na' .nil
  have r2 := r1.push (ws := []) (vs := []) nb' .nil
  have r3 := r2.push (ws := []) (vs := []) nc' .nil
  have t1 := hs.pushS (o := .lst []) na'
  have t2 := r1.pushS (o := .lst []) nb'
  have t3 := r2.pushS (o := .lst []) nc'
  have t4 := r3.pushS (o := .dK [(Sum.inr k1, .ref a), (Sum.inr k2, .ref b), (Sum.inr k3, .ref c)]) np'
  have g1 : (((m.push a).push b).push c).ms[S.length]? = some [a] := by simp [Own.push, ← hs.len]
  have g2 : (((m.push a).push b).push c).ms[S.length + 1]? = some [b] := by simp [Own.push, ← hs.len]
  have g3 : (((m.push a).push b).push c).ms[S.length + 2]? = some [c] := by simp [Own.push, ← hs.len]
  have g4 : ((((m.push a).push b).push c).push p).ms[S.length + 3]? = some [p] := by simp [Own.push, ← hs.len]
  have r4 := r3.pushO (u := .D [(k1, .mt S.length), (k2, .mt (S.length + 1)), (k3, .mt (S.length + 2))]) (o := .dK [(Sum.inr k1, .ref a), (Sum.inr k2, .ref b), (Sum.inr k3, .ref c)]) np'
    ⟨rfl, [(k1, .ref a), (k2, .ref b), (k3, .ref c)], upd_same, .cons (RepW.step t4.g (.mt g1)) (.cons (RepW.step t4.g (.mt g2)) (.cons (RepW.step t4.g (.mt g3)) .nil))⟩
  rw [List.append_assoc, List.append_assoc, List.append_assoc] at r4
  exact hp _ _ (t1.trans (t2.trans (t3.trans t4))) r4 _ (.mt g4)
end
/-! ### d[k] -/
def wDix (x y : W) (S : Store) : Res W := match x, y with
  | .mt k, .str s => match S[k]? with
    | some (.D kvs) => match kvs.lookup s with
      | some w => .ok w S
      | none => .bad
    | _ => .bad
  | _, _ => .bad
theorem RepKs.look {K : PySem.W.Frag} {m : Own} {H : Hp} {s : Str} : ∀ {vs : List (Str × V)} {ws : List (Str × W)} {w : W}, RepKs K m H vs ws → ws.lookup s = some w → ∃ v, valV (txtD vs) (Sum.inr s) = some v ∧ vs.lookup s = some v ∧ RepW K m H v w
  | _, _, _, .nil, h => by simp at h
  | _, _, _, .cons (s := s') (v := v) (w := w') hv hr, h => by
    by_cases e : s = s'
    · subst e
      simp only [List.lookup_cons, beq_self_eq_true] at h
      cases h
      exact ⟨v, by simp [txtD, valV], by simp [List.lookup_cons], hv⟩
    · have b : (s == s') = false := by simpa using e
      simp only [List.lookup_cons, b] at h
      obtain ⟨u, h1, h2, h3⟩ := hr.look h
      refine ⟨u, ?_, by simp only [List.lookup_cons, b]; exact h2, h3⟩
      have ne : ¬ (Sum.inr s' : Key) = Sum.inr s := fun z => e (Sum.inr.inj z).symm
      have ne' : ¬ s' = s := fun z => e z.symm
      simpa [txtD, valV, ne'] using h1
section
variable {X : Cx} {E : Str → Hp → Prop} {a b : Expr} {f g : EF} {pos : Pos}
theorem ev_dix (hu : X.A.units + 1 < cLine) (ha : PEv X E a f) (hb : PEv X E b g) (hs : NoSl b := by exact fun _ _ => rfl) : PEv X E (.Subscript a b pos) (eOp wDix f g) := (pe_dget hu ha hb hs).weak fun σ H Q ⟨m, d, S, he, hs, hp⟩ => by
  refine ⟨m, d, S, he, hs, Post.bind hp fun x S1 m1 H1 s1 r1 h1 v rv => ⟨m1, d, S1, he.step s1.g, r1, Post.bind h1 fun y S2 m2 H2 s2 r2 h2 u ru => ?_⟩⟩
  unfold wDix at h2
  split at h2
  · split at h2
    · rename_i kvs e1
      split at h2
      · rename_i w e2
        cases ru
        have rv2 := rv.step s2.g
        cases rv2 with
        | @mt _ p l em =>
          obtain ⟨a', l', em', hl, vs, hH, hr⟩ := r2.obj _ _ e1
          rw [em] at em'
          cases em'
          obtain ⟨z, z1, z2, z3⟩ := hr.look e2
          refine ⟨p, z, rfl, ?_, h2.ok r2 _ z3⟩
          exact .inl ⟨_, Sum.inr _, .inl hH, rfl, z1.symm⟩
      · exact h2.elim
    · exact h2.elim
  · exact h2.elim
end
end Iv
end
section
set_option maxHeartbeats 3200000
set_option maxRecDepth 100000
/-! ### sorted(set(l)) of a list of ints -/
namespace L2
open PySem PySem.Spec PyProof.Rows
/-- an empty set -/
abbrev emS (w : World) : Obj := { cls := .type "set", dict := none, data := .set #[] 0 (.fresh 0 0 (!w.params.followText "set-order")) }
section
variable {P : Program} {w : World} {A : Around} {E : Value → Shared → Prop} {s : Shared}
theorem set_lst {l : Addr} {its : Array Value} (ns : List Int) {Q : Value → Shared → Prop} (hh : A.handled = none) (hl : s.heap.IsList l its) (hi : IntsAre its.toList ns) (hb : ns.length + 1 < scanBound)
    (h : ∀ (h' : Heap) (tk c : Nat), SetR w h' s.heap.objs.size (fun j => decide (j ∈ ns)) c → c ≤ ns.length → (∀ b o, s.heap.get? b = some o → h'.get? b = some o) → Q (.ref s.heap.objs.size) { s with heap := h', toks := tk }) :
    wpAny (model P w) A (call (.type "set") [.ref l]) Q E s := by
  have sz : its.size = ns.length := by simpa using IntsAre.length hi
  obtain ⟨c, tl, hmro⟩ := F.called_set.mro
  have hmade := F.called_set.made
  have hsub := F.called_set.sub
  refine wpAny_call (codeAny_of_tree ?_)
  show wpAny _ _ (callAny (.type "set") _) _ _ _
  refine wpAny_pure ⟨Code.quiet_builtin _ (by decide +kernel), codeAny_builtin F.entry_type_call ?_⟩
  rw [Around.under_plain (weight_type_call_type "set" [.ref l] []) rfl]
  have h1 := F.called_set.notType
  have h2 := F.called_set.canCreate
  have hct := F.typeCall_set_1 (.ref l)
  repeat (any_goals (first | assumption | wp_step))
  refine codeAny_mono (code_set_led1 (.ref l) (E := E) (Q₁ := fun ob s1 => ob = .ref s.heap.objs.size ∧ s1 = { s with heap := s.heap.push (emS w) }) ⟨rfl, rfl⟩) fun z s1 hz => ?_
  match z, hz with
  | .error e, hz => exact hz
  | .ok (.ret ob), hz =>
    obtain ⟨rfl, rfl⟩ := hz
    have gS : (s.heap.push (emS w)).get? s.heap.objs.size = some (emS w) := Heap.get?_push_size _ rfl
    have hT : Shared.TypeIs { s with heap := s.heap.push (emS w) } (.ref s.heap.objs.size) "set" := ⟨_, gS, rfl⟩
    have hli := F.called_set.init.lookup
    have hbi := F.called_set.init.bind (.ref s.heap.objs.size)
    repeat (any_goals (first | assumption | wp_step))
    refine codeAny_mono (codeAny_call_builtin (R := wants (fun v s2 => v = .none ∧ ∃ h' tk c, s2 = { s with heap := h', toks := tk } ∧ SetR w h' s.heap.objs.size (fun j => decide (j ∈ ns)) c ∧ c ≤ ns.length ∧ ∀ b o, s.heap.get? b = some o → h'.get? b = some o) E) F.called_set.init.plain F.entry_set_init (check_set_init_1 hT ?_)) fun z2 s2 hz2 => ?_
    · obtain ⟨⟨ocls, odict, odata, oslots⟩, hol, hcl, nl, hdl⟩ := hl
      simp only at hcl hdl
      subst hcl hdl
      have lt : l < s.heap.objs.size := Heap.lt_size hol
      have hol' : (s.heap.push (emS w)).get? l = some { cls := .type "list", dict := odict, data := .seq its nl, slots := oslots } := Heap.get?_push_of_some _ hol
      have hsls := F.sub_list_set
      have hslf := F.sub_list_frozenset
      have hne : (Value.type "list" == Value.type "dict") = false := by decide
      have hl1 : (s.heap.push (emS w)).IsList l its := ⟨_, hol', rfl, nl, rfl⟩
      unfold Builtin.«set.__init__» noKeywords Builtin.Frozenset.updateFrom
      generalize hPI : pyIter = PI
      wp_walk
      subst hPI
      refine wpAny_pyIter_list hl1 (wpAny_bind (wpAny_runValue ?_))
      have hh3 : A.in1.in1.in1.handled = none := by simp [hh]
      have z1 : (s.heap.push (emS w)).objs.size = s.heap.objs.size + 1 := Heap.size_push ..
      have nI : l ≠ (s.heap.push (emS w)).objs.size := by rw [z1]; exact Nat.ne_of_lt (Nat.lt_succ_of_lt lt)
      have nS : s.heap.objs.size ∉ [(s.heap.push (emS w)).objs.size, l] := by
        rw [z1]
        simp only [List.mem_cons, List.not_mem_nil, or_false, not_or]
        exact ⟨Nat.ne_of_lt (Nat.lt_succ_self _), Nat.ne_of_gt lt⟩
      have val : ∀ (i : Nat) (v : Value), its[i]? = some v → ∃ k t, ns[i]? = some k ∧ v = .int k t := fun i v hv => by
        have hi' : i < ns.length := by rw [← sz]; exact (Array.getElem?_eq_some_iff.mp hv).1
        obtain ⟨t, e⟩ := PyProof.Rows.IntsAre.int_at hi i v (by rw [Array.getElem?_toList]; exact hv)
        exact ⟨ns[i], t, List.getElem?_eq_getElem hi', by rw [e, List.getD_eq_getElem?_getD, List.getElem?_eq_getElem hi'] <;> rfl⟩
      refine set_update_ints ((Walks.list hh3 _ l nI its).toS) s.heap.objs.size nS ns sz hb val (its.size - 0) 0 _ (by omega) (Nat.zero_le _) ⟨⟨_, Heap.get?_push_size _ rfl, rfl, rfl⟩, hl1.at fun o e => Heap.get?_push_of_some _ e⟩ ?_ ?_
      · exact ⟨0, Nat.le_refl 0, setR_new_at (Heap.get?_push_of_some _ gS)⟩
      · intro s' c' hm hc' hS'
        obtain ⟨h', g2, d', tk', os'⟩ := s'
        have eg : g2 = s.gens := hm.gens
        have ed : d' = s.drawn := hm.drawn
        have eo : os' = s.os := hm.os
        subst eg ed eo
        show wpAny _ _ _ _ _ _
        refine wpAny_pure ?_
        show wpAny _ _ (ret Value.none) _ _ _
        rw [sz] at hc'
        refine wpAny_pure ⟨rfl, h', tk', c', rfl, hS', hc', fun b o e => ?_⟩
        have b0 : b < s.heap.objs.size := Heap.lt_size e
        refine hm.heap b o ?_ (Heap.get?_push_of_some _ (Heap.get?_push_of_some _ e))
        simp only [List.mem_cons, List.not_mem_nil, or_false, not_or]
        exact ⟨Nat.ne_of_lt b0, by rw [z1]; exact Nat.ne_of_lt (Nat.lt_succ_of_lt b0)⟩
    · match z2, hz2 with
      | .error e, hz2 => exact hz2
      | .ok (.ret v), hz2 =>
        obtain ⟨rfl, h', tk, c', rfl, hS', hc', hk'⟩ := hz2
        repeat (any_goals (first | assumption | wp_step))
        exact h _ _ _ hS' hc' hk'
end
section
variable {X : Cx}
theorem cr_setL (hc : X.calm = true) : CallR X (.type "set") (fun xs H Q => ∃ (p : Addr) (ns : List Int), xs = [.ref p] ∧ SqL X.K H p (ns.map V.int) ∧ ns.length ≤ 1000 ∧ ∀ q c, H q = none → c ≤ ns.length → Q (.ref q) (upd H q (SetO X.w q (fun j => decide (j ∈ ns)) c))) := fun pins s σ H xs us Q I r ⟨p, ns, ex, hq, hl, q⟩ => by
  subst ex
  rw [Vals.ref1 r]
  obtain ⟨its, rv, pl, hz⟩ := I.list hq
  refine set_lst ns (I.ok.hd hc) pl.isList (ints_of_vals rv) (by unfold scanBound; omega) fun h' tk c hS hcl hk => ?_
  have fr : H s.heap.objs.size = none := I.hok.fresh (Nat.le_refl _)
  exact ⟨.ref _, _, I.laid (t' := tk) (o := SetO X.w s.heap.objs.size (fun j => decide (j ∈ ns)) c) hk (Nat.le_refl _) (setO_new hS), rfl, q _ c fr hcl⟩
end
end L2
namespace Iv
open PySem L2
def insS (n : Int) : List Int → List Int
  | [] => [n]
  | k :: r => if n < k then n :: k :: r else if n = k then k :: r else k :: insS n r
def sset : List Int → List Int
  | [] => []
  | n :: r => insS n (sset r)
theorem insS_mem (n x : Int) : ∀ l : List Int, x ∈ insS n l ↔ x = n ∨ x ∈ l
  | [] => by simp [insS]
  | k :: r => by
    unfold insS
    split
    · simp
    · split
      · rename_i h
        subst h
        simp
      · simp only [List.mem_cons, insS_mem n x r]
        constructor
        · rintro (h | h | h)
          · exact .inr (.inl h)
          · exact .inl h
          · exact .inr (.inr h)
        · rintro (h | h | h)
          · exact .inr (.inl h)
          · exact .inl h
          · exact .inr (.inr h)
theorem insS_sorted (n : Int) : ∀ l : List Int, l.Pairwise (· < ·) → (insS n l).Pairwise (· < ·)
  | [], _ => by simp [insS]
  | k :: r, h => by
    rw [List.pairwise_cons] at h
    unfold insS
    split
    · rename_i hn
      rw [List.pairwise_cons, List.pairwise_cons]
      refine ⟨fun x hx => ?_, h⟩
      rcases List.mem_cons.mp hx with e | e
      · rw [e]; exact hn
      · have := h.1 x e
        omega
    · split
      · exact List.pairwise_cons.mpr h
      · rename_i h1 h2
        rw [List.pairwise_cons]
        refine ⟨fun x hx => ?_, insS_sorted n r h.2⟩
        rcases (insS_mem n x r).mp hx with e | e
        · rw [e]; omega
        · exact h.1 x e
theorem sset_mem (x : Int) : ∀ l : List Int, x ∈ sset l ↔ x ∈ l
  | [] => by simp [sset]
  | k :: r => by rw [sset, insS_mem, sset_mem x r, List.mem_cons]
theorem sset_sorted : ∀ l : List Int, (sset l).Pairwise (· < ·)
  | [] => by simp [sset]
  | k :: r => insS_sorted k _ (sset_sorted r)
theorem strict_eq : ∀ (l l' : List Int), l.Pairwise (· < ·) → l'.Pairwise (· < ·) → (∀ x, x ∈ l ↔ x ∈ l') → l = l'
  | [], [], _, _, _ => rfl
  | [], y :: l', _, _, h => by simpa using (h y).mpr List.mem_cons_self
  | x :: l, [], _, _, h => by simpa using (h x).mp List.mem_cons_self
  | x :: l, y :: l', h1, h2, h => by
    rw [List.pairwise_cons] at h1 h2
    have e : x = y := by
      have a := (h x).mp List.mem_cons_self
      have b := (h y).mpr List.mem_cons_self
      rcases List.mem_cons.mp a with a | a
      · exact a
      · rcases List.mem_cons.mp b with b | b
        · exact b.symm
        · have := h1.1 y b
          have := h2.1 x a
          omega
    subst e
    congr 1
    refine strict_eq l l' h1.2 h2.2 fun z => ?_
    have hz := h z
    simp only [List.mem_cons] at hz
    constructor
    · intro m
      have := h1.1 z m
      rcases hz.mp (.inr m) with q | q
      · omega
      · exact q
    · intro m
      have := h2.1 z m
      rcases hz.mpr (.inr m) with q | q
      · omega
      · exact q
/-- sorted(set(x)) -/
def wSSet (x : W) (S : Store) : Res W := match listOf x S with
  | some ws => match intsOf ws with
    | some ns => if ns.length < 64 then .ok (.lst ((sset ns).map .int)) S else .bad
    | none => .bad
  | none => .bad
section
variable {X : Cx} {E : Str → Hp → Prop} {e : Expr} {f : EF} {p p2 q pos : Pos}
theorem ev_sset (hc : X.calm = true) (hg : Gl X "sorted") (hm : X.mg "sorted" = none) (hg2 : Gl X "set") (hm2 : X.mg "set" = none) (he : PEv X E e f) (hs : starEach [e] X.env = (false, eval e X.env) :: starEach [] X.env := by rfl) (hp : (backTo q (starEach [] X.env)).any (·.1) = false := by rfl)
    (hs1 : starEach [.Call (.Name "set" p2) [e] [] q] X.env = (false, eval (.Call (.Name "set" p2) [e] [] q) X.env) :: starEach [] X.env := by rfl) (hp1 : (backTo pos (starEach [] X.env)).any (·.1) = false := by rfl) :
    PEv X E (.Call (.Name "sorted" p) [.Call (.Name "set" p2) [e] [] q] [] pos) (eUn wSSet f) := by
  have h1 : PE X (.Call (.Name "set" p2) [e] [] q) _ := pe_callTy (cr_setL hc) hg2 hm2 (by decide +kernel) (pa_cons he pa_nil hs) (by decide) (by decide) hs hp
  refine (pe_callB (cr_sortedSet hc) hg hm bb_sorted (pa_cons h1 pa_nil hs1) (by decide) (by decide) hs1 hp1).weak fun σ H Q ⟨m, d, S, hE, hS, hP⟩ => ?_
  refine ⟨m, d, S, hE, hS, Post.bind hP fun x S1 m1 H1 s1 r1 h1 v rv => ?_⟩
  unfold wSSet at h1
  split at h1
  · rename_i ws e1
    split at h1
    · rename_i ns e2
      split at h1
      · rename_i hl
        obtain ⟨a, vs, rfl, ha, hr⟩ := rv.list r1 e1
        have ev := repLits hr e2
        subst ev
        refine ⟨a, ns, rfl, .inl (.inl ha), by omega, fun b c nb hc' => ⟨b, _, c, rfl, upd_same, by omega, fun ns' p hp1 hp2 hp3 np => ?_⟩⟩
        have e3 : ns' = sset ns := strict_eq _ _ hp1 (sset_sorted ns) fun z => by rw [hp2, sset_mem, decide_eq_true_eq]
        subst e3
        have r2 := r1.alloc (o := SetO X.w b (fun j => decide (j ∈ ns)) c) nb
        have t2 := r1.allocS (o := SetO X.w b (fun j => decide (j ∈ ns)) c) nb
        exact h1 m1 _ (t2.trans (r2.allocS np)) (r2.alloc np) _ (newLst r2 np (repInts _))
      · exact h1.elim
    · exact h1.elim
  · exact h1.elim
end
end Iv
end
section
set_option maxHeartbeats 2000000
set_option maxRecDepth 100000
namespace Iv
open PySem PySem.Spec PyProof.Rows L2

/-! ### an exception that is caught and kept -/
/-- a caught object is taken into the book -/
theorem keepX {X : Cx} {pins : List (Addr × Obj)} {σ : L2.St} {H : Hp} {s : Shared} {a : Addr} {oe : Obj} {vs : Array Value} {cls : Value} (I : Inv X pins σ H s) (ha : s.heap.get? a = some oe) (hz : Zc cls none oe) (hd : oe.data = .fields vs) (na : H a = none)
    (nL : a ≠ X.env.locals) (n0 : X.s_0.heap.get? a = none) (np : ∀ p, p ∈ X.pn ++ pins → p.1 ≠ a) : Inv X pins σ (upd H a (ExX cls a)) s where
  ok := I.ok
  os := I.os
  bare := I.bare
  base := by
    have e : Un X.fs X.ex H (upd H a (ExX cls a)) X.s_0.heap X.s_0.heap := Un.laidN (fun _ _ q => q) n0 na
    exact ⟨I.base.keep, I.base.slot, fun b o q n x => e.free b o q (I.base.free b o q n x) x, I.base.there, fun b xs q => e.tups b xs (I.base.tups b xs q), fun b o u q => e.frzs b o u (I.base.frzs b o u q), fun b ps q => by
      obtain ⟨m1, e1⟩ := I.base.tbls b ps q
      obtain ⟨m2, e2⟩ := e.tbls b _ e1
      exact ⟨m1 ++ m2, by rw [e2, Array.append_assoc]⟩⟩
  loc := I.loc
  cell := I.cell
  free := by
    rw [upd_ne (Ne.symm nL)]
    exact I.free
  freeC := fun x c e => by
    have nc : c ≠ a := fun z => by
      obtain ⟨v, o, ho, hc⟩ := I.cell x c e
      rw [z, ha] at ho
      cases ho
      rw [hd] at hc
      cases hc
    rw [upd_ne nc]
    exact I.freeC x c e
  pin := fun p hp => by
    obtain ⟨q1, q2, q3⟩ := I.pin p hp
    exact ⟨q1, by rw [upd_ne (np p hp)]; exact q2, q3⟩
  hok := I.hok.laidN (fun _ _ q => q) na ⟨⟨oe, vs, ha, hz, hd⟩, ⟨oe, ha⟩, fun _ _ ⟨o, v, q, r⟩ k => ⟨o, v, k o q, r⟩⟩
  len := I.len

/-- what the clause wishes: the class is the clause's, and the rest goes on with the exception in slot j -/
def wKeep (K : PySem.W.Frag) (c : Value) (i j : Nat) (D : Ends) : WX := fun cls d σ H => PySem.W.exmOne K cls c = some true ∧ d = none ∧ ∀ a, H a = none → D.nx (((σ.set i (some (.ref a))).set j (some (.ref a))).set i none) (upd H a (ExX cls a))
section
variable {X : Cx} {x n y : Str} {c : Value} {i j : Nat} {body : List Stmt} {np pos pos' p1 p2 p3 : Pos} {tb : WX → TS}
/-- try: body / except x as n: y = n -/
theorem ps_try_keep (hs : X.stack = X.env :: X.outer) (hf : X.env.frame = some X.env.locals) (hex : X.ex = []) (hN : X.N.Nodup) (hi : X.N[i]? = some n) (hln : X.env.kindOf n = some .local) (hj : X.N[j]? = some y) (hly : X.env.kindOf y = some .local) (hc : Names X x c)
    (hsw : swapsWith (.Name n p2) (some (.Name y p1)) p3.line X.env = pure false) (hvis : Vis X.env.scope n) (hd1 : (n == ("__debug__" : Str)) = false) (hd2 : (n == ("__classdict__" : Str)) = false)
    (hb : ∀ (W : WX) (pn : List (Addr × Obj)) (xe : Value → Shared → Prop), Takes (X.tr pn xe) W → PSs (X.tr pn xe) body (tb W)) :
    PS X (.Try body [.ExceptHandler (some (.Name x np)) (some n) [.Assign [.Name y p1] (.Name n p2) p3] pos'] [] [] pos) (fun D σ H => tb (wKeep X.K c i j D) D σ H) := by
  refine ⟨fun pins s σ H D I h => ?_⟩
  have ok := I.ok
  have hfr : X.A.frames = some (X.env :: X.outer) := by rw [ok.frames, hs]
  have hloc : Loc X.env.scope n := .inl hln
  refine wpAny_Try_except ?_
  refine wpAny_mono ((hb (wKeep X.K c i j D) (X.pn ++ pins) _ (fun u s' xx => ?_)).run [] s σ H D (I.toTry _) h) (fun f s1 hsp => ?_) (fun e s1 he => he)
  rotate_left
  · cases f with
    | next => exact wpAny_execs_nil (by obtain ⟨σ', H', J', q⟩ := hsp; exact ⟨σ', H', J'.ofTry ok, q⟩)
    | brk => obtain ⟨σ', H', J', q⟩ := hsp; exact ⟨σ', H', J'.ofTry ok, q⟩
    | cont => obtain ⟨σ', H', J', q⟩ := hsp; exact ⟨σ', H', J'.ofTry ok, q⟩
    | ret u => obtain ⟨v, σ', H', J', r, q⟩ := hsp; exact ⟨v, σ', H', J'.ofTry ok, r, q⟩
  · obtain ⟨a, B, sI, pins', σ', H', cls, d, rfl, J', nb, up, sky, na, os, ag, hb1, hd0, hyes⟩ := xx
    subst hd0
    have J : Inv X pins σ' H' sI := J'.ofTry ok
    rw [show (X.tr (X.pn ++ pins) _).stack = X.env :: X.outer from hs] at sky
    show wpAny (model X.prog X.w) X.A (noteFrame (.ref a) X.env) _ _ _
    refine Sky.land Zc.steady hfr hf sky fun h3 fl3 up3 => ?_
    have J3 : Inv X pins σ' H' { s' with heap := h3 } := J.landed nb fl3.1 (up.trans up3) os ag
    obtain ⟨oe3, vs3, he3, hz3, hd3⟩ := fl3.there
    have nfr : a ∉ frs (X.env :: X.outer) := fun hm => by
      obtain ⟨_, o', e', hnf⟩ := fl3.2.2.1.mem hm
      rw [he3] at e'
      cases e'
      exact hnf _ hd3
    have nL : a ≠ X.env.locals := fun z => nfr (List.mem_filterMap.mpr ⟨X.env, List.mem_cons_self, by rw [hf, z]⟩)
    have nF : a ∉ X.fs := fun hm => by
      obtain ⟨e, he, q⟩ := List.mem_filterMap.mp hm
      exact nfr (List.mem_filterMap.mpr ⟨e, List.mem_cons_of_mem _ he, q⟩)
    have nI : sI.heap.get? a = none := by
      cases q : sI.heap.get? a with
      | none => rfl
      | some o =>
        have z := nb a o q (by rw [hs]; exact nfr)
        rw [fl3.2.1] at z
        cases z
    have n0 : X.s_0.heap.get? a = none := by
      cases q : X.s_0.heap.get? a with
      | none => rfl
      | some o =>
        obtain ⟨o', z⟩ := J.base.there a o q (by rw [hex]; exact fun z => nomatch z)
        rw [nI] at z
        cases z
    have npn : ∀ p, p ∈ X.pn ++ pins → p.1 ≠ a := fun p hp z => by
      have q := (J.pin p hp).1
      rw [z, nI] at q
      cases q
    have S3 := J3.suite he3 hd3 na nL nF
    refine wpAny_handleBy_cons (codeAny_handlers_test ?_) (by intro q; cases q)
    have LT : PySem.W.Looks (model X.prog X.w) h3 (typeOf (.ref a)) cls := fun A Q E s k q => wpAny_typeOf_ref (k _ _ he3) (by rw [hz3.1]; exact q)
    have LM := PySem.W.exm_one (M := model X.prog X.w) J3.kIn LT hb1
    have test : ∀ {Q : Value → Shared → Prop} {E : Value → Shared → Prop}, Q c { s' with heap := h3 } → wpAny (model X.prog X.w) (X.A.mark (some (.ref a))) (eval (.Name x np) X.env) Q E { s' with heap := h3 } := fun {Q E} q => by
      obtain ⟨hg, hdbg, hm | ⟨hm, hv, hnn⟩⟩ := hc
      · exact ld_glob (X := X.suite a ((a, oe3) :: (X.pn ++ pins))) S3 hg hm q hdbg
      · exact ld_blt (X := X.suite a ((a, oe3) :: (X.pn ++ pins))) S3 hg hm hv q hnn hdbg
    refine test (LM.here (codeAny_handlers_suite_as ?_))
    refine HandSPX.lands_againZ fl3 fun h4 fl4 up4 => ?_
    have J4 : Inv X pins σ' H' { s' with heap := h4 } := J.landed nb fl4.1 ((up.trans up3).trans up4) os ag
    obtain ⟨oe4, vs4, he4, hz4, hd4⟩ := fl4.there
    have S4 := J4.suite he4 hd4 na nL nF
    refine store_ok (X := X.suite a ((a, oe4) :: (X.pn ++ pins))) (v := .ref a) S4 hN hi hloc rfl (fun s5 S5 => ?_) (.inr hln)
    have hsu : PSs (X.suite a ((a, oe4) :: (X.pn ++ pins))) [.Assign [.Name y p1] (.Name n p2) p3] (tAsg (tVar i) (gName j)) := pss_one (ps_set (X := X.suite a ((a, oe4) :: (X.pn ++ pins))) hN hj (.inl hly) (pe_var hi hvis hd1 hd2) hsw (.inr hly))
    have hlen : i < σ'.length := by
      rw [J.len]
      exact (List.getElem?_eq_some_iff.mp hi).1
    refine wpAny_mono (hsu.run [] s5 _ H' { nx := fun σ6 H6 => σ6 = (σ'.set i (some (.ref a))).set j (some (.ref a)) ∧ H6 = H', rt := fun _ _ => False, bk := fun _ _ => False, ct := fun _ _ => False } S5 ⟨_, List.getElem?_set_self hlen, rfl, rfl⟩) (fun f s6 hsp => ?_) (fun _ _ z => False.elim z)
    cases f with
    | next =>
      obtain ⟨σ6, H6, S6, e1, e2⟩ := hsp
      subst e1 e2
      obtain ⟨g1, g2, _⟩ := S6.pin (a, oe4) (List.mem_append.mpr (.inl List.mem_cons_self))
      refine gone_ok (keepX (S6.unsuite ok) g1 hz4 hd4 g2 nL n0 npn) hN hi hln fun s7 J7 => ⟨_, _, J7, hyes a na⟩
    | brk =>
      obtain ⟨σ6, H6, S6, q6⟩ := hsp
      exact q6.elim
    | cont =>
      obtain ⟨σ6, H6, S6, q6⟩ := hsp
      exact q6.elim
    | ret u =>
      obtain ⟨v6, σ6, H6, S6, r6, q6⟩ := hsp
      exact q6.elim
end

/-! ### defs that raise -/
def EEx (K : PySem.W.Frag) : XK → Str → Hp → Prop := fun E c H => ∀ C, PySem.W.nsIn K mainGlobals c = some (some (.ref C)) → E (.ref C) none H
/-- an own class of exceptions -/
structure ExcD (K : PySem.W.Frag) (mg : Str → Option Value) (c : Str) : Prop where
  ex : ∃ (C : Addr) (B newId initId : String) (bmB : List Value), PySem.W.nsIn K mainGlobals c = some (some (.ref C)) ∧ mg c = some (.ref C) ∧ ExcBaseFacts B newId initId bmB ∧ PySem.W.excIn K C bmB newId = true ∧ PySem.W.keepIn K (.ref C) = true ∧
    PySem.W.subIn K (.ref C) (.type "BaseException") = some true ∧ PySem.W.typeIn K (.ref C) = some (.type "type")
structure OkX (P : Program) (w : World) (K : PySem.W.Frag) (mg : Str → Option Value) (base : Heap) (k : Nat) (x : Str) (n : Nat) (F : List W → Store → Res W) : Prop where
  ex : ∃ (f : Addr) (fd : FuncData) (ps : List Str), ps.length = n ∧ FnOk P w K mg base (L2.CX P w) k f fd ps (spF K (EEx K) n F) ∧ mg x = some (.ref f) ∧ PySem.W.keepIn K (.ref f) = true ∧ Binds K fd ps []
structure OkN (P : Program) (w : World) (K : PySem.W.Frag) (mg : Str → Option Value) (base : Heap) (k : Nat) (x : Str) (n : Nat) (F : List W → Store → Res W) : Prop where
  ex : ∃ (f : Addr) (fd : FuncData) (ps : List Str), ps.length = n ∧ (∀ E : Str → Hp → Prop, FnOk P w K mg base CX0 k f fd ps (spF K (fun _ => E) n F)) ∧ mg x = some (.ref f) ∧ PySem.W.keepIn K (.ref f) = true ∧ Binds K fd ps []
section
variable {P : Program} {w : World} {K : PySem.W.Frag} {mg : Str → Option Value} {base : Heap}
/-- the run of a def from its body's reading -/
theorem run_ends {EE : Str → Hp → Prop} {N ps : List Str} {b : SF} {vs : List V} {H : Hp} {Q : VK} {n : Nat} (h : vs.length = n ∧ ∃ m ws S, RepWs K m H vs ws ∧ RepS K m H S ∧ Post K EE m H (runF N.length b ws S) (CV K Q)) :
    rS K EE b { nx := fun _ H' => Q .non H', rt := Q } (L2.start N vs) H := by
  obtain ⟨hl, m, ws, S, rv, rs, hp⟩ := h
  refine ⟨m, start0 N.length ws, S, start_rep rv, rs, ?_⟩
  unfold runF at hp
  split at hp
  · rename_i w' S' e
    exact post_ok e fun m' H' s' rs' v rv' => fin_ok rs s' rs' rv' hp
  · rename_i d' S' e
    exact post_ok e fun m' H' s' rs' σ' _ => fin_ok rs s' rs' .non hp
  · exact hp.elim
  · rename_i c S' e
    rw [e]
    intro m' H' s' rs'
    exact finX_ok rs s' rs' hp
  · exact hp.elim
theorem okN_fn {x qual : Str} {st : Stmt} {f : Addr} {fd : FuncData} {N ps : List Str} {k : Nat} {b : SF} (F : Fun K x qual st f fd) (Sc : FnScope N ps (defScope st))
    (hbody : ∀ (E' : Str → Hp → Prop) (cdv : Value) (A : Around) (outer : List Env) (s : Shared) (H : Hp) (E : XK), Room k (A.deeper (PyProof.Rows.envOfC qual (defScope st) s.heap.objs.size f cdv)) → PSsv (cxOf CX0 P w K mg base N qual (defScope st) f cdv A outer s H E).nox E' (defBody st) b)
    (hg : mg x = some (.ref f)) (hb : ∀ (kV doc pm : Value) (an : Option Addr) (cdv ct : Value) (us : List Value), us.length = ps.length → bindArgs (PySem.W.fnOf x qual (defArgs st) (defBody st) (defScope st) .none kV doc pm an cdv ct) ⟨us, []⟩ = pure (ps.zip us)) :
    OkN P w K mg base (k + 1) x ps.length (runF N.length b) :=
  ⟨f, fd, ps, rfl, fun E' => F.ok Sc (fun vs H Q E h => h.1) (fun cdv A outer s H vs Q E hr h => ⟨_, hbody E' cdv A outer s H E hr, run_ends (ps := ps) h⟩), hg, F.kp, F.binds hb⟩
theorem okX_fn {x qual : Str} {st : Stmt} {f : Addr} {fd : FuncData} {N ps : List Str} {k : Nat} {b : SF} (F : Fun K x qual st f fd) (Sc : FnScope N ps (defScope st))
    (hbody : ∀ (cdv : Value) (A : Around) (outer : List Env) (s : Shared) (H : Hp) (E : XK), Room k (A.deeper (PyProof.Rows.envOfC qual (defScope st) s.heap.objs.size f cdv)) →
      Takes (cxOf (L2.CX P w) P w K mg base N qual (defScope st) f cdv A outer s H E) (fun cls d _ H => E cls d H) → PSsv (cxOf (L2.CX P w) P w K mg base N qual (defScope st) f cdv A outer s H E) (EEx K E) (defBody st) b)
    (hg : mg x = some (.ref f)) (hb : ∀ (kV doc pm : Value) (an : Option Addr) (cdv ct : Value) (us : List Value), us.length = ps.length → bindArgs (PySem.W.fnOf x qual (defArgs st) (defBody st) (defScope st) .none kV doc pm an cdv ct) ⟨us, []⟩ = pure (ps.zip us)) :
    OkX P w K mg base (k + 1) x ps.length (runF N.length b) :=
  ⟨f, fd, ps, rfl, F.okX Sc (fun vs H Q E h => h.1) (fun cdv A outer s H vs Q E hr h => ⟨_, hbody cdv A outer s H E hr (takes_of rfl rfl rfl rfl), run_ends (ps := ps) h⟩), hg, F.kp, F.binds hb⟩
end
section
variable {X : Cx} {e : Expr} {es : List Expr} {fa : AF} {x : Str} {p pos p2 p3 : Pos} {k n j : Nat} {F : List W → Store → Res W} {E : Str → Hp → Prop} {E0 : XK}
theorem ev_fnN (G : OkN X.prog X.w X.K X.mg X.base k x n F) (hr : Room k X.A) (ha : PAv X E (e :: es) fa) (hg : Gl X x := by rfl) (hdb : (x == ("__debug__" : Str)) = false := by decide) (he : starEach (e :: es) X.env = (false, eval e X.env) :: starEach es X.env := by rfl) (hpl : (backTo pos (starEach es X.env)).any (·.1) = false := by rfl) :
    PEv X E (.Call (.Name x p) (e :: es) [] pos) (eFn n F fa) := by
  obtain ⟨f, fd, ps, hl, G, hm, hk, hb⟩ := G.ex
  refine (pe_call (E := L2.E0) (G E) hr hg hm hk hb .nil pass0 ha hdb he hpl).weak fun σ H Q ⟨m, d, S, he, hs, hp⟩ => ?_
  refine ⟨m, d, S, he, hs, Post.bind hp fun ws S1 m1 H1 s1 r1 h1 vs rv => ?_⟩
  split at h1
  · rename_i hn
    exact ⟨by rw [List.append_nil, rv.length]; exact hn, m1, ws, S1, by rw [List.append_nil]; exact rv, r1, h1⟩
  · exact h1.elim
theorem ev_fnX (tk : Takes X (fun cls d _ H => E0 cls d H)) (G : OkX X.prog X.w X.K X.mg X.base k x n F) (hr : Room k X.A) (ha : PAv X (EEx X.K E0) (e :: es) fa) (hg : Gl X x := by rfl) (hdb : (x == ("__debug__" : Str)) = false := by decide) (he : starEach (e :: es) X.env = (false, eval e X.env) :: starEach es X.env := by rfl) (hpl : (backTo pos (starEach es X.env)).any (·.1) = false := by rfl) :
    PEv X (EEx X.K E0) (.Call (.Name x p) (e :: es) [] pos) (eFn n F fa) := by
  obtain ⟨f, fd, ps, hl, G, hm, hk, hb⟩ := G.ex
  refine (pe_call G hr hg hm hk hb .nil (passes_call (E := E0) tk fun _ _ _ _ h => h) ha hdb he hpl).weak fun σ H Q ⟨m, d, S, he, hs, hp⟩ => ?_
  refine ⟨m, d, S, he, hs, Post.bind hp fun ws S1 m1 H1 s1 r1 h1 vs rv => ?_⟩
  split at h1
  · rename_i hn
    exact ⟨by rw [List.append_nil, rv.length]; exact hn, m1, ws, S1, by rw [List.append_nil]; exact rv, r1, h1⟩
  · exact h1.elim
theorem sv_raise {msg : Str} (hc : X.calm = true) (tk : Takes X (fun cls d _ H => E0 cls d H)) (D : ExcD X.K X.mg x) (hg : Gl X x := by rfl) (hdb : (x == ("__debug__" : Str)) = false := by decide) :
    PSv X (EEx X.K E0) (.Raise (some (.Call (.Name x p) [.Constant (.str msg) j p2] [] p3)) none pos) (sRaise x) := by
  obtain ⟨C, B, newId, initId, bmB, h1, h2, h3, h4, h5, h6, h7⟩ := D.ex
  refine (ps_raise hc tk (pmk_own h3 h4 h2 h5 (raises_own h6 h7) hg hdb)).weak fun D' σ H ⟨m, d, S, he, hs, hp⟩ => ?_
  exact hp.exc hs C h1
end

/-! ### the one try of the laws -/
def errs : List Str := ["InvalidRing", "InvalidNumber", "InvalidKind", "InvalidLength", "InvalidPerimeter", "InvalidText", "NoPosition", "ZeroDiagonal", "NoRing", "TooLong", "NothingToUndo"]
structure ExcAll (K : PySem.W.Frag) (mg : Str → Option Value) (B : Addr) : Prop where
  bar : mg "BarError" = some (.ref B)
  each : ∀ c, c ∈ errs → ∃ C, PySem.W.nsIn K mainGlobals c = some (some (.ref C)) ∧ mg c = some (.ref C) ∧ PySem.W.exmOne K (.ref C) (.ref B) = some true ∧ ExcC K C ∧ PySem.W.kitOne K (.ref C) (.type "ValueError") = some true
  pair : ∀ c, c ∈ errs → ∀ d, d ∈ errs → ∀ C D, PySem.W.nsIn K mainGlobals c = some (some (.ref C)) → PySem.W.nsIn K mainGlobals d = some (some (.ref D)) → PySem.W.kitOne K (.ref C) (.ref D) = some (decide (c = d))
def sTry (n : Nat) (F : List W → Store → Res W) (fa : AF) (ir ie ic : Nat) : SF := fun d S => (fa d S).bind fun ws S1 => if ws.length = n then match F ws S1 with
    | .ok w S2 => .ok (.nx (d.set ir (some w))) S2
    | .exc c S2 => if c ∈ errs then .ok (.nx (((d.set ie none).set ic (some (.mt S2.length))).set ie none)) (S2 ++ [.E c]) else .bad
    | .bad => .bad
  else .bad
theorem RepE.drop {K : PySem.W.Frag} {m : Own} {H : Hp} {σ : L2.St} {d : En} (h : RepE K m H σ d) (i : Nat) (o : Option V) : RepE K m H (σ.set i o) (d.set i none) := ⟨by rw [List.length_set, List.length_set, h.len], fun j w' e => by
  by_cases hj : i = j
  · subst hj
    by_cases hi : i < d.length
    · rw [List.getElem?_set_self hi] at e
      cases e
    · rw [List.getElem?_eq_none (by simpa using hi)] at e
      cases e
  · rw [List.getElem?_set_ne hj] at e
    obtain ⟨v', e1, r'⟩ := h.get j w' e
    exact ⟨v', by rw [List.getElem?_set_ne hj]; exact e1, r'⟩⟩
section
variable {X : Cx} {e : Expr} {es : List Expr} {fa : AF} {x n y r : Str} {p pos pos' np p1 p2 p3 p4 p5 p6 : Pos} {k nn i j ir : Nat} {F : List W → Store → Res W} {B : Addr}
theorem sv_try (T : ExcAll X.K X.mg B) (hN : X.N.Nodup) (G : OkX X.prog X.w X.K X.mg X.base k x nn F) (hr : Room k X.A) (ha : ∀ pn xe, PAv (X.tr pn xe) NoE (e :: es) fa) (hir : X.N[ir]? = some r := by rfl) (hi : X.N[i]? = some n := by rfl) (hj : X.N[j]? = some y := by rfl)
    (hlr : X.env.kindOf r = some .local := by rfl) (hln : X.env.kindOf n = some .local := by rfl) (hly : X.env.kindOf y = some .local := by rfl) (hvis : Vis X.env.scope n := by exact Or.inl rfl)
    (hs : X.stack = X.env :: X.outer := by rfl) (hf : X.env.frame = some X.env.locals := by rfl) (hex : X.ex = [] := by rfl) (hsw : swapsWith (.Name n p2) (some (.Name y p1)) p3.line X.env = pure false := by rfl) (hsw' : swapsWith (.Call (.Name x p) (e :: es) [] p5) (some (.Name r p4)) p6.line X.env = pure false := by rfl)
    (hd1 : (n == ("__debug__" : Str)) = false := by decide) (hd2 : (n == ("__classdict__" : Str)) = false := by decide) (hgB : Gl X "BarError" := by rfl)
    (hg : Gl X x := by rfl) (hdb : (x == ("__debug__" : Str)) = false := by decide) (he : starEach (e :: es) X.env = (false, eval e X.env) :: starEach es X.env := by rfl) (hpl : (backTo p5 (starEach es X.env)).any (·.1) = false := by rfl) :
    PSv X NoE (.Try [.Assign [.Name r p4] (.Call (.Name x p) (e :: es) [] p5) p6] [.ExceptHandler (some (.Name "BarError" np)) (some n) [.Assign [.Name y p1] (.Name n p2) p3] pos'] [] [] pos) (sTry nn F fa ir i j) := by
  obtain ⟨f, fd, ps, hl, G, hm, hk, hb⟩ := G.ex
  refine (ps_try_keep (tb := fun W => tAsg (tCallS (spF X.K (EEx X.K) nn F) (WE W) (rA X.K NoE fa)) (gName ir)) hs hf hex hN hi hln hj hly (c := .ref B) ⟨hgB, rfl, .inl T.bar⟩ hsw hvis hd1 hd2 (fun W pn xe tk =>
    pss_one (ps_set (X := X.tr pn xe) hN hir (.inl hlr) (pe_callS (X := X.tr pn xe) (E := WE W) G hr hg hm hk hb (fun σ => passAt tk σ) (ha pn xe) hdb he hpl) hsw' (.inr hlr)))).weak fun D σ H ⟨m, d, S, he, hs, hp⟩ => ?_
  refine ⟨m, d, S, he, hs, Post.bind hp fun ws S1 m1 H1 s1 r1 h1 vs rv => ?_⟩
  split at h1
  · rename_i hn
    refine ⟨by rw [rv.length]; exact hn, m1, ws, S1, rv, r1, ?_⟩
    cases hF : F ws S1 with
    | ok w S2 =>
      rw [hF] at h1
      exact fun m2 H2 s2 r2 v rv2 => h1 m2 H2 s2 r2 _ ((he.step (s1.trans s2).g).set rv2 ir)
    | exc c S2 =>
      rw [hF] at h1
      simp only at h1
      split at h1
      · rename_i hc
        intro m2 H2 s2 r2 C hC
        obtain ⟨C', q1, q2, q3, q4⟩ := T.each c hc
        rw [hC] at q1
        cases q1
        refine ⟨q3, rfl, fun a na => ?_⟩
        have st := r2.pushS (o := ExX (.ref C) a) na
        refine h1 _ _ (s2.trans st) (r2.pushO na ⟨rfl, C, hC, upd_same⟩) _ ?_
        exact ((((he.step ((s1.trans s2).trans st).g).drop i _).set (.mt (l := []) (by rw [← r2.len]; simp [Own.push])) j).drop i _)
      · exact h1.elim
    | bad =>
      rw [hF] at h1
      exact h1.elim
  · exact h1.elim
end

/-! ### isinstance of a kept exception -/
theorem call_isX {X : Cx} : CallR X (.builtin "isinstance") (fun xs H Q => ∃ (a C : Addr) (c : V) (cv : Value) (b : Bool), xs = [.ref a, c] ∧ H a = some (ExX (.ref C) a) ∧ ExcC X.K C ∧ (∀ u, RelV c u → u = cv) ∧ PySem.W.kitOne X.K (.ref C) cv = some b ∧ Q (.bl b) H) := by
  intro pins s σ H xs us Q I r h
  obtain ⟨a, C, c, cv, b, rfl, ha, K, hcv, e, q⟩ := h
  cases r with
  | cons rx rr =>
    cases rr with
    | cons rt rr =>
      cases rr
      cases rx
      have ec := hcv _ rt
      subst ec
      obtain ⟨⟨oe, vs, hget, hz, hv⟩, _, _⟩ := I.hok a _ ha
      have J : PySem.W.InstAt s.heap a oe C none := by
        obtain ⟨oc, od, oda, osl⟩ := oe
        obtain ⟨h1, h2⟩ := hz
        dsimp only at h1 h2 hv
        subst h1 h2 hv
        exact ⟨hget, rfl, rfl, trivial⟩
      exact PySem.W.kia_one (PySem.W.handS_kitx_exc K.hg K.hk K.hs K.hd K.ha K.hn K.ht K.hm) I.kIn J e (fun z => nomatch z) fun tk => ⟨.bl b, H, I.kept (t' := tk) fun _ _ z => z, rfl, q⟩
def bIsX (d : Str) (x : W) (S : Store) : Res W := match x with
  | .mt k => match S[k]? with
    | some (.E c) => if c ∈ errs then .ok (.bl (decide (d = "ValueError") || decide (c = d))) S else .bad
    | _ => .bad
  | _ => .bad
section
variable {X : Cx} {E : Str → Hp → Prop} {e : Expr} {f : EF} {p p2 pos : Pos} {B : Addr}
theorem isX_end {K : PySem.W.Frag} {mg : Str → Option Value} {m : Own} {H : Hp} {S : Store} {d : Str} {w : W} {v : V} {C : Own → Hp → W → Prop} (T : ExcAll K mg B) (rs : RepS K m H S) (rv : RepW K m H v w) (hp : Post K E m H (bIsX d w S) C) :
    ∃ (a C' : Addr) (c : Str), v = .ref a ∧ c ∈ errs ∧ PySem.W.nsIn K mainGlobals c = some (some (.ref C')) ∧ H a = some (ExX (.ref C') a) ∧ ExcC K C' ∧ PySem.W.kitOne K (.ref C') (.type "ValueError") = some true ∧ C m H (.bl (decide (d = "ValueError") || decide (c = d))) := by
  unfold bIsX at hp
  split at hp
  · rename_i k
    split at hp
    · rename_i c e
      split at hp
      · rename_i hc
        cases rv with
        | @mt k a l em =>
          obtain ⟨a', l', em', _, C', hC, hH⟩ := rs.obj k _ e
          rw [em] at em'
          cases em'
          obtain ⟨C2, q1, q2, q3, q4, q5⟩ := T.each c hc
          rw [hC] at q1
          cases q1
          exact ⟨a, C', c, rfl, hc, hC, hH, q4, q5, hp.ok rs⟩
      · exact hp.elim
    · exact hp.elim
  · exact hp.elim
theorem ev_isX {x : Str} (T : ExcAll X.K X.mg B) (hx : x ∈ errs) (he : PEv X E e f) (hg : Gl X "isinstance") (hm : X.mg "isinstance" = none) (hgx : Gl X x) (hdb : (x == ("__debug__" : Str)) = false := by decide) (hv : decide (x = "ValueError") = false := by decide)
    (h1 : starEach [e, .Name x p2] X.env = [(false, eval e X.env), (false, eval (.Name x p2) X.env)] := by rfl) (h2 : starEach [.Name x p2] X.env = [(false, eval (.Name x p2) X.env)] := by rfl) (hpl : (backTo pos (starEach [.Name x p2] X.env)).any (·.1) = false := by rfl) :
    PEv X E (.Call (.Name "isinstance" p) [e, .Name x p2] [] pos) (eUn (bIsX x) f) := by
  obtain ⟨D, d1, d2, _⟩ := T.each x hx
  refine (pe_callB call_isX hg hm (by decide +kernel) (pa_cons he (pa_cons (pe_glob (v := .ref D) hgx d2 rfl hdb) pa_nil h2) h1) (by decide) (by decide) h1 hpl).weak fun σ H Q ⟨m, d, S, he, hs, hp⟩ => ?_
  refine ⟨m, d, S, he, hs, Post.bind hp fun z S1 m1 H1 s1 r1 h1 v rv => ?_⟩
  obtain ⟨a, C', c, rfl, hc, q1, q2, q3, q4, q5⟩ := isX_end T r1 rv h1
  rw [hv, Bool.false_or] at q5
  exact ⟨a, C', .ref D, .ref D, _, rfl, q2, q3, fun u r => by cases r; rfl, T.pair c hc x hx C' D q1 d1, q5 _ (.bl _)⟩
theorem ev_isV (T : ExcAll X.K X.mg B) (he : PEv X E e f) (hg : Gl X "isinstance") (hm : X.mg "isinstance" = none) (hgx : Gl X "ValueError") (hmx : X.mg "ValueError" = none)
    (h1 : starEach [e, .Name "ValueError" p2] X.env = [(false, eval e X.env), (false, eval (.Name "ValueError" p2) X.env)] := by rfl) (h2 : starEach [.Name "ValueError" p2] X.env = [(false, eval (.Name "ValueError" p2) X.env)] := by rfl) (hpl : (backTo pos (starEach [.Name "ValueError" p2] X.env)).any (·.1) = false := by rfl) :
    PEv X E (.Call (.Name "isinstance" p) [e, .Name "ValueError" p2] [] pos) (eUn (bIsX "ValueError") f) := by
  refine (pe_callB call_isX hg hm (by decide +kernel) (pa_cons he (pa_cons (pe_bltn (v := .ty "ValueError") hgx hmx (by decide +kernel) rfl (by decide) (by decide)) pa_nil h2) h1) (by decide) (by decide) h1 hpl).weak fun σ H Q ⟨m, d, S, he, hs, hp⟩ => ?_
  refine ⟨m, d, S, he, hs, Post.bind hp fun z S1 m1 H1 s1 r1 h1 v rv => ?_⟩
  obtain ⟨a, C', c, rfl, hc, q1, q2, q3, q4, q5⟩ := isX_end T r1 rv h1
  exact ⟨a, C', .ty "ValueError", .type "ValueError", true, rfl, q2, q3, fun u r => by cases r; rfl, q4, q5 _ (.bl _)⟩
end

/-! ### a call of one of some defs: (f, g, ..)[i](..) -/
section
variable {X : Cx} {CX : CXT} {fe e : Expr} {es : List Expr} {tf : TE} {t : TA} {pos : Pos} {E : XK}
theorem pe_callV (hf : PE X fe tf) (hx : Passes CX X E) (ha : PA X (e :: es) t) (ht : eval (.Call fe (e :: es) [] pos) X.env = (do callWith pos (← eval fe X.env) [] (backTo pos (starEach (e :: es) X.env)) (backToKw pos (keywordEach [] X.env))))
    (he : starEach (e :: es) X.env = (false, eval e X.env) :: starEach es X.env) (hpl : (backTo pos (starEach es X.env)).any (·.1) = false) :
    PE X (.Call fe (e :: es) [] pos) (fun σ H Q => tf σ H fun y H1 => ∃ (f : Addr) (k : Nat) (fd : FuncData) (ps : List Str) (sp : Sp), y = .ref f ∧ FnOk X.prog X.w X.K X.mg X.base CX k f fd ps sp ∧ Room k X.A ∧ PySem.W.keepIn X.K (.ref f) = true ∧ Binds X.K fd ps [] ∧ t σ H1 fun vs H2 => sp vs H2 Q E) := by
  refine ⟨fun pins s σ H Q I h => ?_⟩
  rw [ht]
  refine wpAny_bind (thn (hf.run pins s σ H _ I h) fun u s1 ⟨y, H1, I1, ry, f, k, fd, ps, sp, ey, F, hr, hk, hb, q⟩ => ?_)
  subst ey
  obtain rfl : u = Value.ref f := ry
  refine PySem.W.callWith_K (h₀ := X.base) I1.ok.mod.kin hk (thn (ha.run pos pins s1 σ H1 _ I1 q) fun us s2 ⟨vs, H2, I2, r, q2⟩ => ⟨I2.kIn, ?_⟩) he hpl
  exact run_fn (dvs := []) F hr hb .nil hx I2 r (by rw [List.append_nil]; exact q2)
end
/-- some defs by name -/
inductive FnsX (X : Cx) (n : Nat) : List Expr → List Addr → List (List W → Store → Res W) → Prop
  | nil : FnsX X n [] [] []
  | cons {x : Str} {p : Pos} {es : List Expr} {f : Addr} {fs : List Addr} {F : List W → Store → Res W} {Fs : List (List W → Store → Res W)} (k : Nat) (fd : FuncData) (ps : List Str) : Gl X x → (x == ("__debug__" : Str)) = false → X.mg x = some (.ref f) → Room k X.A → FnOk X.prog X.w X.K X.mg X.base (L2.CX X.prog X.w) k f fd ps (spF X.K (EEx X.K) n F) →
      PySem.W.keepIn X.K (.ref f) = true → Binds X.K fd ps [] → FnsX X n es fs Fs → FnsX X n (.Name x p :: es) (f :: fs) (F :: Fs)
structure FnsT (X : Cx) (n : Nat) (es : List Expr) (Fs : List (List W → Store → Res W)) : Prop where
  ex : ∃ fs, FnsX X n es fs Fs
def aG : List Addr → AF
  | [] => aNil
  | f :: fs => aCons (eC (.obj (.ref f))) (aG fs)
theorem aG_eq : ∀ (fs : List Addr) (d : En) (S : Store), aG fs d S = .ok (fs.map fun f => W.obj (.ref f)) S
  | [], _, _ => rfl
  | f :: fs, d, S => by simp only [aG, aCons, eC, Res.bind, aG_eq fs, List.map_cons]
section
variable {X : Cx} {n : Nat} {E : Str → Hp → Prop}
theorem fns_nil : FnsT X n [] [] := ⟨[], .nil⟩
theorem fns_cons {k : Nat} {x : Str} {p : Pos} {es : List Expr} {F : List W → Store → Res W} {Fs : List (List W → Store → Res W)} (G : OkX X.prog X.w X.K X.mg X.base k x n F) (hr : Room k X.A) (h : FnsT X n es Fs) (hg : Gl X x := by rfl) (hdb : (x == ("__debug__" : Str)) = false := by decide) : FnsT X n (.Name x p :: es) (F :: Fs) := by
  obtain ⟨fs, h⟩ := h.ex
  obtain ⟨f, fd, ps, hl, G, hm, hk, hb⟩ := G.ex
  exact ⟨f :: fs, .cons k fd ps hg hdb hm hr G hk hb h⟩
theorem FnsX.av {es : List Expr} {fs : List Addr} {Fs : List (List W → Store → Res W)} (h : FnsX X n es fs Fs) : PAv X E es (aG fs) := by
  induction h with
  | nil => exact av_nil
  | cons k fd ps hg hdb hm hr G hk hb h ih => exact av_cons ((pe_glob (v := .ref _) hg hm rfl hdb).weak fun σ H Q ⟨m, d, S, he, hs, hp⟩ => hp.ok hs _ (.obj _)) ih rfl
theorem FnsX.len {es : List Expr} {fs : List Addr} {Fs : List (List W → Store → Res W)} (h : FnsX X n es fs Fs) : fs.length = Fs.length := by
  induction h with
  | nil => rfl
  | cons k fd ps hg hdb hm hr G hk hb h ih => exact congrArg (· + 1) ih
theorem FnsX.get {es : List Expr} {fs : List Addr} {Fs : List (List W → Store → Res W)} (h : FnsX X n es fs Fs) : ∀ (j : Nat) (F : List W → Store → Res W), Fs[j]? = some F → ∃ f k fd ps, fs[j]? = some f ∧ Room k X.A ∧ FnOk X.prog X.w X.K X.mg X.base (L2.CX X.prog X.w) k f fd ps (spF X.K (EEx X.K) n F) ∧ PySem.W.keepIn X.K (.ref f) = true ∧ Binds X.K fd ps [] := by
  induction h with
  | nil => exact fun j F e => by simp at e
  | cons k fd ps hg hdb hm hr G hk hb h ih =>
    intro j F e
    cases j with
    | zero =>
      simp at e
      subst e
      exact ⟨_, k, fd, ps, rfl, hr, G, hk, hb⟩
    | succ j => exact ih j F (by simpa using e)
end
def eCallT (n : Nat) (Fs : List (List W → Store → Res W)) (fi : EF) (fa : AF) : EF := fun d S => (fi d S).bind fun i S1 => match i with
  | .int z => match ixN Fs.length z with
    | some j => match Fs[j]? with
      | some F => eFn n F fa d S1
      | none => .bad
    | none => .bad
  | _ => .bad
section
variable {X : Cx} {n q : Nat} {E0 : XK} {ie a : Expr} {es as : List Expr} {fi : EF} {fa : AF} {Fs : List (List W → Store → Res W)} {p1 p2 pos : Pos}
theorem ev_callT (tk : Takes X (fun cls d _ H => E0 cls d H)) (T : FnsT X n es Fs) (hi : PEv X (EEx X.K E0) ie fi) (ha : PAv X (EEx X.K E0) (a :: as) fa) (hn : Fs.length ≤ 100000 := by decide) (hs : PlainIx ie := by exact fun _ _ => rfl)
    (ht : eval (.Call (.Subscript (.Tuple es q p1) ie p2) (a :: as) [] pos) X.env = (do callWith pos (← eval (.Subscript (.Tuple es q p1) ie p2) X.env) [] (backTo pos (starEach (a :: as) X.env)) (backToKw pos (keywordEach [] X.env))) := by rfl)
    (he : starEach (a :: as) X.env = (false, eval a X.env) :: starEach as X.env := by rfl) (hpl : (backTo pos (starEach as X.env)).any (·.1) = false := by rfl) :
    PEv X (EEx X.K E0) (.Call (.Subscript (.Tuple es q p1) ie p2) (a :: as) [] pos) (eCallT n Fs fi fa) := by
  obtain ⟨fs, h⟩ := T.ex
  refine (pe_callV (ev_ix ix_w (ev_tup h.av) hi hs) (passes_call (E := E0) tk fun _ _ _ _ h => h) ha ht he hpl).weak fun σ H Q ⟨m, d, S, hE, hS, hp⟩ => ?_
  refine ⟨m, d, S, hE, hS, ?_⟩
  have e1 : eTup (aG fs) d S = .ok (.tup (fs.map fun f => W.obj (.ref f))) S := by
    show (aG fs d S).bind mkTup = _
    rw [aG_eq]
    show mkTup _ _ = _
    unfold mkTup
    rw [if_pos (by rw [List.length_map, h.len]; exact hn)]
  show Post _ _ m H ((eTup (aG fs) d S).bind fun x S1 => (fi d S1).bind fun y S2 => wIx x y S2) _
  rw [e1]
  show Post _ _ m H ((fi d S).bind fun y S2 => wIx (.tup (fs.map fun f => W.obj (.ref f))) y S2) _
  unfold eCallT at hp
  cases hf : fi d S with
  | bad =>
    rw [hf] at hp
    exact hp.elim
  | exc c S1 =>
    rw [hf] at hp
    exact hp
  | ok i S1 =>
    rw [hf] at hp
    simp only [Res.bind] at hp ⊢
    split at hp
    · rename_i z
      split at hp
      · rename_i j ej
        split at hp
        · rename_i F eF
          obtain ⟨f, k, fd, ps, e2, hr, G, hk, hb⟩ := h.get j F eF
          have e3 : wIx (.tup (fs.map fun f => W.obj (.ref f))) (.int z) S1 = .ok (.obj (.ref f)) S1 := by
            simp only [wIx, seqOf, L2.atI, List.length_map, h.len, ej, Option.bind_some, List.getElem?_map, e2, Option.map_some]
          rw [e3]
          intro m1 H1 s1 r1 v rv
          cases rv
          refine ⟨f, k, fd, ps, _, rfl, G, hr, hk, hb, m1, d, S1, hE.step s1.g, r1, Post.bind (hp.step s1) fun ws S2 m2 H2 s2 r2 h2 vs rvs => ?_⟩
          split at h2
          · rename_i hl
            exact ⟨by rw [rvs.length]; exact hl, m2, ws, S2, rvs, r2, h2⟩
          · exact h2.elim
        · exact hp.elim
      · exact hp.elim
    · exact hp.elim
end

/-! ### the facts of a class of exceptions, as the walk can look them up -/
structure ExcF (K : PySem.W.Frag) (B C : Addr) : Prop where
  xin : PySem.W.excIn K C [.type "ValueError", .type "Exception", .type "BaseException", .type "object"] "ValueError.__new__" = true
  kp : PySem.W.keepIn K (.ref C) = true
  base : PySem.W.subIn K (.ref C) (.type "BaseException") = some true
  val : PySem.W.subIn K (.ref C) (.type "ValueError") = some true
  ty : PySem.W.typeIn K (.ref C) = some (.type "type")
  bar : PySem.W.subIn K (.ref C) (.ref B) = some true
  self : PySem.W.subIn K (.ref C) (.ref C) = some true
  x : ExcC K C
theorem ExcF.d {K : PySem.W.Frag} {mg : Str → Option Value} {B C : Addr} {c : Str} (h : ExcF K B C) (e1 : PySem.W.nsIn K mainGlobals c = some (some (.ref C))) (e2 : mg c = some (.ref C)) : ExcD K mg c := ⟨C, _, _, _, _, e1, e2, PySem.F.excBase_ValueError, h.xin, h.kp, h.base, h.ty⟩
theorem kit_val {K : PySem.W.Frag} {C : Addr} (h : PySem.W.subIn K (.ref C) (.type "ValueError") = some true) : PySem.W.kitOne K (.ref C) (.type "ValueError") = some true := by
  show (if PySem.W.kitMeta "ValueError" = true then PySem.W.subIn K (.ref C) (.type "ValueError") else none) = some true
  rw [if_pos (by decide +kernel), h]
theorem kit_ref {K : PySem.W.Frag} {B C D : Addr} {b : Bool} (hD : ExcF K B D) (h : PySem.W.subIn K (.ref C) (.ref D) = some b) : PySem.W.kitOne K (.ref C) (.ref D) = some b := by
  unfold PySem.W.kitOne
  split
  · rename_i e
    have e' : Value.ref C = Value.ref D := beq_iff_eq.mp e
    cases e'
    rw [hD.self] at h
    exact h
  · obtain ⟨cd, hc, _⟩ := PySem.W.any_some hD.x.hd
    show (if ((PySem.W.clsIn K D).isSome && PySem.W.typeIn K (.ref D) == some (.type "type")) = true then PySem.W.subIn K (.ref C) (.ref D) else none) = some b
    rw [if_pos (by rw [hc, hD.ty]; rfl), h]
end Iv
end
section
set_option maxHeartbeats 2000000
set_option maxRecDepth 100000
namespace Iv
open PySem PySem.Spec PyProof.Rows L2

/-! ### list(range(..)) -/
theorem repRg {K : PySem.W.Frag} {m : Own} {H : Hp} : ∀ (n : Nat) (a : Int), RepWs K m H ((List.range n).map fun i => V.int (a + (i : Nat))) (rangeW a n)
  | 0, a => .nil
  | n + 1, a => by
    rw [List.range_succ_eq_map, List.map_cons, List.map_map, rangeW]
    have e : (fun i : Nat => V.int (a + (i : Nat))) ∘ Nat.succ = fun i : Nat => V.int (a + 1 + (i : Nat)) := by
      funext i
      show V.int (a + ((i + 1 : Nat) : Int)) = V.int (a + 1 + (i : Int))
      congr 1
      omega
    rw [e]
    have h0 : V.int (a + ((0 : Nat) : Int)) = V.int a := by simp
    rw [h0]
    exact .cons (.int a) (repRg n (a + 1))
def lRg1 (x : W) (S : Store) : Res W := match x with
  | .int n => if 0 ≤ n ∧ n ≤ 100000 then .ok (.lst (rangeW 0 n.toNat)) S else .bad
  | _ => .bad
def lRg2 (x y : W) (S : Store) : Res W := match x, y with
  | .int a, .int b => if 0 ≤ a ∧ a ≤ b ∧ b ≤ 100000 then .ok (.lst (rangeW a (b - a).toNat)) S else .bad
  | _, _ => .bad
section
variable {X : Cx} {E : Str → Hp → Prop} {e e2 : Expr} {f f2 : EF} {p p2 q pos : Pos}
theorem ev_lrg1 (hc : X.calm = true) (hg : Gl X "list") (hm : X.mg "list" = none) (hg2 : Gl X "range") (hm2 : X.mg "range" = none) (he : PEv X E e f) (hs : starEach [e] X.env = (false, eval e X.env) :: starEach [] X.env := by rfl)
    (hs1 : starEach [.Call (.Name "range" p2) [e] [] q] X.env = (false, eval (.Call (.Name "range" p2) [e] [] q) X.env) :: starEach [] X.env := by rfl) :
    PEv X E (.Call (.Name "list" p) [.Call (.Name "range" p2) [e] [] q] [] pos) (eUn lRg1 f) := by
  refine (pe_listRg hc hg hm (prg_1 hg2 hm2 he hs) hs1).weak fun σ H Q ⟨m, d, S, hE, hS, hP⟩ => ?_
  refine ⟨m, d, S, hE, hS, Post.bind hP fun x S1 m1 H1 s1 r1 h1 v rv => ?_⟩
  unfold lRg1 at h1
  split at h1
  · rename_i n
    split at h1
    · rename_i hn
      cases rv
      refine ⟨n, rfl, RgOk.of_le (by omega) (by omega) (by omega) hn.1, fun l nl => h1 m1 _ (r1.allocS nl) (r1.alloc nl) _ (newLst r1 nl ?_)⟩
      have := repRg (K := X.K) (m := m1) (H := H1) n.toNat 0
      unfold rgV
      rw [Int.sub_zero]
      exact this
    · exact h1.elim
  · exact h1.elim
theorem ev_lrg2 (hc : X.calm = true) (hg : Gl X "list") (hm : X.mg "list" = none) (hg2 : Gl X "range") (hm2 : X.mg "range" = none) (he : PEv X E e f) (he2 : PEv X E e2 f2) (hs : starEach [e, e2] X.env = (false, eval e X.env) :: starEach [e2] X.env := by rfl) (hsb : starEach [e2] X.env = (false, eval e2 X.env) :: starEach [] X.env := by rfl)
    (hpb : (backTo q (starEach [e2] X.env)).any (·.1) = false := by rfl)
    (hs1 : starEach [.Call (.Name "range" p2) [e, e2] [] q] X.env = (false, eval (.Call (.Name "range" p2) [e, e2] [] q) X.env) :: starEach [] X.env := by rfl) :
    PEv X E (.Call (.Name "list" p) [.Call (.Name "range" p2) [e, e2] [] q] [] pos) (eOp lRg2 f f2) := by
  refine (pe_listRg hc hg hm (prg_2 hg2 hm2 he he2 hs hsb hpb) hs1).weak fun σ H Q ⟨m, d, S, hE, hS, hP⟩ => ?_
  refine ⟨m, d, S, hE, hS, Post.bind hP fun x S1 m1 H1 s1 r1 h1 v rv => ⟨m1, d, S1, hE.step s1.g, r1, Post.bind h1 fun y S2 m2 H2 s2 r2 h2 u ru => ?_⟩⟩
  unfold lRg2 at h2
  split at h2
  · rename_i a b
    split at h2
    · rename_i hn
      cases rv
      cases ru
      refine ⟨a, b, rfl, rfl, RgOk.of_le (by omega) (by omega) (by omega) (by omega), fun l nl => h2 m2 _ (r2.allocS nl) (r2.alloc nl) _ (newLst r2 nl ?_)⟩
      exact repRg (K := X.K) (m := m2) (H := H2) (b - a).toNat a
    · exact h2.elim
  · exact h2.elim
end
end Iv
end
section
set_option maxHeartbeats 2000000
set_option maxRecDepth 100000
namespace Iv
open PySem PySem.Spec PyProof.Rows L2

/-! ### instances in the store -/
def Own.pushI (m : Own) (p q : Addr) : Own := ⟨m.ms ++ [[p, q]], m.hid⟩
section
variable {K : PySem.W.Frag} {m m' : Own} {H H' : Hp} {S S' : Store}
theorem own_pushI {p q r : Addr} (h : owned (m.pushI p q) r) : owned m r ∨ r = p ∨ r = q := by
  rcases h with h | ⟨l, hl, hq⟩
  · exact .inl (.inl h)
  · rcases List.mem_append.mp hl with hl | hl
    · exact .inl (.inr ⟨l, hl, hq⟩)
    · have e : l = [p, q] := by simpa using hl
      subst e
      exact .inr (by simpa using hq)
theorem Grw.pushI {p q : Addr} {o u : HO} (np : H p = none) (nq : H q = none) : Grw m H (m.pushI p q) (upd (upd H q u) p o) where
  pre := fun k a l h => ⟨l, by
    show (m.ms ++ [[p, q]])[k]? = _
    rw [List.getElem?_append_left (List.getElem?_eq_some_iff.mp h).1]; exact h⟩
  new := fun r h n => by
    rcases own_pushI h with h | h | h
    · exact absurd h n
    · rw [h]; exact np
    · rw [h]; exact nq
  keep := fun a u e _ => by
    rw [upd_ne (ne_of_none e np), upd_ne (ne_of_none e nq)]
    exact e
theorem RepS.pushIS (h : RepS K m H S) {p q : Addr} {o u : HO} (np : H p = none) (nq : H q = none) : Step m H (m.pushI p q) (upd (upd H q u) p o) := ⟨Grw.pushI np nq, rfl, fun a ha => by
  obtain ⟨u, e⟩ := h.trk a ha
  rw [upd_ne (ne_of_none e np), upd_ne (ne_of_none e nq)]⟩
theorem pushI_cases {p q : Addr} {i : Nat} {l : List Addr} (e : (m.pushI p q).ms[i]? = some l) : (i < m.ms.length ∧ m.ms[i]? = some l) ∨ (i = m.ms.length ∧ l = [p, q]) := by
  have e : (m.ms ++ [[p, q]])[i]? = some l := e
  by_cases hi : i < m.ms.length
  · rw [List.getElem?_append_left hi] at e
    exact .inl ⟨hi, e⟩
  · have hi2 : i = m.ms.length := by
      have := (List.getElem?_eq_some_iff.mp e).1
      simp at this
      omega
    subst hi2
    rw [List.getElem?_append_right (Nat.le_refl _)] at e
    simp at e
    exact .inr ⟨rfl, e.symm⟩
theorem RepS.pushI (h : RepS K m H S) {p q : Addr} {o u : HO} {x : MO} (np : H p = none) (nq : H q = none) (r : RepO K (m.pushI p q) (upd (upd H q u) p o) p [q] x) : RepS K (m.pushI p q) (upd (upd H q u) p o) (S ++ [x]) where
  len := by simp [Own.pushI, h.len]
  obj := fun k o' e => by
    by_cases hk : k < S.length
    · rw [List.getElem?_append_left hk] at e
      obtain ⟨a, l, e1, z⟩ := h.obj k o' e
      refine ⟨a, l, by
        show (m.ms ++ [[p, q]])[k]? = _
        rw [List.getElem?_append_left (by rw [h.len]; exact hk)]; exact e1, z.step (Grw.pushI np nq) fun b hb => ?_⟩
      obtain ⟨u, hu⟩ := z.tracked b hb
      rw [upd_ne (ne_of_none hu np), upd_ne (ne_of_none hu nq)]
    · have hk2 : k = S.length := by
        have := (List.getElem?_eq_some_iff.mp e).1
        simp at this
        omega
      subst hk2
      rw [List.getElem?_append_right (Nat.le_refl _)] at e
      simp at e
      subst e
      exact ⟨p, [q], by
        show (m.ms ++ [[p, q]])[S.length]? = _
        rw [List.getElem?_append_right (by rw [h.len]; exact Nat.le_refl _)]; simp [h.len], r⟩
  disj := fun j k l l' hjk hj hk a ha ha' => by
    rcases pushI_cases hj with ⟨j1, j2⟩ | ⟨j1, j2⟩ <;> rcases pushI_cases hk with ⟨k1, k2⟩ | ⟨k1, k2⟩
    · exact h.disj j k l l' hjk j2 k2 a ha ha'
    · subst k2
      rcases (by simpa using ha' : a = p ∨ a = q) with e | e
      · subst e
        exact h.fresh np (.inr ⟨l, List.mem_of_getElem? j2, ha⟩)
      · subst e
        exact h.fresh nq (.inr ⟨l, List.mem_of_getElem? j2, ha⟩)
    · subst j2
      rcases (by simpa using ha : a = p ∨ a = q) with e | e
      · subst e
        exact h.fresh np (.inr ⟨l', List.mem_of_getElem? k2, ha'⟩)
      · subst e
        exact h.fresh nq (.inr ⟨l', List.mem_of_getElem? k2, ha'⟩)
    · exact hjk (j1.trans k1.symm)
  trk := fun a ha => by
    obtain ⟨u, e⟩ := h.trk a ha
    exact ⟨u, by rw [upd_ne (ne_of_none e np), upd_ne (ne_of_none e nq)]; exact e⟩
  dish := fun k l hk a ha hh => by
    rcases pushI_cases hk with ⟨k1, k2⟩ | ⟨k1, k2⟩
    · exact h.dish k l k2 a ha hh
    · subst k2
      rcases (by simpa using ha : a = p ∨ a = q) with e | e
      · subst e
        exact h.fresh np (.inl hh)
      · subst e
        exact h.fresh nq (.inl hh)
/-- an instance written -/
theorem RepS.writeI (h : RepS K m H S) {k : Nat} {a C dx : Addr} {vs : List (Str × V)} {ws ws0 : List (Str × W)} (e : m.ms[k]? = some [a, dx]) (e0 : S[k]? = some (.I ws0)) (hC : PySem.W.nsIn K mainGlobals "Bench" = some (some (.ref C)))
    (hd : H dx = some (.own a)) (ne : dx ≠ a) (r : RepKs K m H vs ws) : RepS K m (upd H a (.ins C dx vs)) (S.set k (.I ws)) where
  len := by simp [h.len]
  obj := fun j o ej => by
    by_cases hj : k = j
    · subst hj
      rw [List.getElem?_set_self (List.getElem?_eq_some_iff.mp e0).1] at ej
      cases ej
      exact ⟨a, [dx], e, C, dx, vs, rfl, hC, upd_same, by rw [upd_ne ne]; exact hd, r.step (Grw.write (owned_of e List.mem_cons_self))⟩
    · rw [List.getElem?_set_ne hj] at ej
      obtain ⟨b, l', e1, q⟩ := h.obj j o ej
      refine ⟨b, l', e1, q.step (Grw.write (owned_of e List.mem_cons_self)) fun c hc => ?_⟩
      exact upd_ne fun z => h.disj j k _ _ (Ne.symm hj) e1 e c hc (by rw [z]; exact List.mem_cons_self)
  disj := h.disj
  trk := fun b hb => by
    obtain ⟨u, q⟩ := h.trk b hb
    refine ⟨u, ?_⟩
    rw [upd_ne (fun z => h.dish k _ e a List.mem_cons_self (by rw [← z]; exact hb))]
    exact q
  dish := h.dish
theorem RepKs.lookup : ∀ {vs : List (Str × V)} {ws : List (Str × W)}, RepKs K m H vs ws → ∀ (f : Str), (∀ w, ws.lookup f = some w → ∃ v, vs.lookup f = some v ∧ RepW K m H v w) ∧ (ws.lookup f = none → vs.lookup f = none)
  | _, _, .nil, f => ⟨fun w e => by simp at e, fun _ => rfl⟩
  | _, _, .cons (s := s) h r, f => by
    have ih := r.lookup f
    simp only [List.lookup_cons]
    cases q : f == s
    · exact ih
    · exact ⟨fun w e => by cases e; exact ⟨_, rfl, h⟩, fun e => by cases e⟩
def putW (f : Str) (y : W) : List (Str × W) → List (Str × W)
  | [] => [(f, y)]
  | (k, x) :: r => if k = f then (k, y) :: r else (k, x) :: putW f y r
theorem RepKs.put {f : Str} {v : V} {w : W} (hv : RepW K m H v w) : ∀ {vs : List (Str × V)} {ws : List (Str × W)}, RepKs K m H vs ws → RepKs K m H (putF f v vs) (putW f w ws)
  | _, _, .nil => .cons hv .nil
  | _, _, .cons (s := s) (v := v0) (vs := vs) (w := w0) (ws := ws) h r => by
    rw [show putF f v ((s, v0) :: vs) = (if s = f then (s, v) :: vs else (s, v0) :: putF f v vs) from rfl, putW]
    by_cases q : s = f
    · rw [if_pos q, if_pos q]; exact .cons hv r
    · rw [if_neg q, if_neg q]; exact .cons h (r.put hv)
theorem RepKs.length : ∀ {vs : List (Str × V)} {ws : List (Str × W)}, RepKs K m H vs ws → vs.length = ws.length
  | _, _, .nil => rfl
  | _, _, .cons h r => congrArg (· + 1) r.length
end

/-! ### the class -/
def flds : List Str := ["begun", "current", "earlier", "done", "undone"]
structure BenchC (K : PySem.W.Frag) (mg : Str → Option Value) (C : Addr) : Prop where
  ns : PySem.W.nsIn K mainGlobals "Bench" = some (some (.ref C))
  mgC : mg "Bench" = some (.ref C)
  cl : Cls K C
  no : ∀ f, f ∈ flds → NoAttr K C f
  makes : PySem.W.makesIn K C = true
  kp : PySem.W.keepIn K (.ref C) = true
  ha : PySem.W.findIn K (.ref C) "__class__" = some (some (.builtin "object.__class__"))
  hn : PySem.W.specialIn K (.builtin "object.__class__") "__get__" = some (some (.builtin "getset_descriptor.__get__"))
  htk : PySem.W.takesIn K (.builtin "object.__class__") = some true
  hm : PySem.W.mroIn K C (.type "object") = some true
  ty : PySem.W.typeIn K (.ref C) = some (.type "type")
  ne : PySem.W.findIn K (.ref C) "__ne__" = some (some (.builtin "object.__ne__"))
  sl : PySem.W.subIn K (.type "list") (.ref C) = some false
  ss : PySem.W.subIn K (.type "str") (.ref C) = some false
/-- what an instance is in the heap -/
theorem BenchC.at {K : PySem.W.Frag} {mg : Str → Option Value} {C : Addr} (B : BenchC K mg C) {m : Own} {H : Hp} {S : Store} {k : Nat} {v : V} {fs : List (Str × W)} (rs : RepS K m H S) (rv : RepW K m H v (.mt k)) (e : S[k]? = some (.I fs)) :
    ∃ a dx vs, v = .ref a ∧ m.ms[k]? = some [a, dx] ∧ H a = some (.ins C dx vs) ∧ H dx = some (.own a) ∧ RepKs K m H vs fs := by
  cases rv with
  | @mt k a l em =>
    obtain ⟨a', l', em', C', dx, vs, hl, hC, h1, h2, h3⟩ := rs.obj k _ e
    rw [em] at em'
    cases em'
    subst hl
    rw [B.ns] at hC
    cases hC
    exact ⟨a, dx, vs, rfl, em, h1, h2, h3⟩
def eFld (f : Str) (fo : EF) : EF := fun d S => (fo d S).bind fun x S1 => match x with
  | .mt k => match S1[k]? with
    | some (.I fs) => match fs.lookup f with
      | some w => .ok w S1
      | none => .bad
    | _ => .bad
  | _ => .bad
def sFldS (f : Str) (fo fv : EF) : SF := fun d S => (fv d S).bind fun y S1 => (fo d S1).bind fun x S2 => match x with
  | .mt k => match S2[k]? with
    | some (.I fs) => if fs.length < 1000 then .ok (.nx d) (S2.set k (.I (putW f y fs))) else .bad
    | _ => .bad
  | _ => .bad
def eMake (n : Nat) (F : List W → Store → Res W) (fa : AF) : EF := fun d S => (fa d S).bind fun ws S1 => if ws.length + 1 = n then (F (.mt S1.length :: ws) (S1 ++ [.I []])).bind fun r S2 => match r with
    | .non => .ok (.mt S1.length) S2
    | _ => .bad
  else .bad
def eMt (m : Str) (n : Nat) (F : List W → Store → Res W) (fo : EF) (fa : AF) : EF := fun d S => (fo d S).bind fun x S1 => match x with
  | .mt k => match S1[k]? with
    | some (.I fs) => match fs.lookup m with
      | none => (fa d S1).bind fun ws S2 => if ws.length + 1 = n then F (x :: ws) S2 else .bad
      | some _ => .bad
    | _ => .bad
  | _ => .bad
section
variable {X : Cx} {E : Str → Hp → Prop} {C : Addr} {e o : Expr} {fo fv : EF} {f : Str} {pos pos' p apos : Pos}
theorem ev_fld (B : BenchC X.K X.mg C) (hf : f ∈ flds) (he : PEv X E e fo) (hb : attributeBase e f X.env (eval e X.env) = eval e X.env := by rfl) : PEv X E (.Attribute e f pos) (eFld f fo) := by
  refine (pe_fld he hb).weak fun σ H Q ⟨m, d, S, hE, hS, hP⟩ => ?_
  refine ⟨m, d, S, hE, hS, Post.bind hP fun x S1 m1 H1 s1 r1 h1 v rv => ?_⟩
  split at h1
  · split at h1
    · rename_i fs ek
      split at h1
      · rename_i w ew
        obtain ⟨a, dx, vs, rfl, em, ha, hd, hk⟩ := B.at r1 rv ek
        obtain ⟨v, ev, rv'⟩ := (hk.lookup f).1 w ew
        exact ⟨a, C, dx, vs, v, rfl, ha, B.cl, B.no f hf, ev, h1.ok r1 v rv'⟩
      · exact h1.elim
    · exact h1.elim
  · exact h1.elim
theorem sv_fld (B : BenchC X.K X.mg C) (hf : f ∈ flds) (ho : PEv X E o fo) (hv : PEv X E e fv) (hs : swapsWith e (some (.Attribute o f pos')) pos.line X.env = pure false := by rfl) : PSv X E (.Assign [.Attribute o f pos'] e pos) (sFldS f fo fv) := by
  refine (ps_fld ho hv hs).weak fun D σ H ⟨m, d, S, hE, hS, hP⟩ => ?_
  refine ⟨m, d, S, hE, hS, Post.bind hP fun y S1 m1 H1 s1 r1 h1 v rv => ⟨m1, d, S1, hE.step s1.g, r1, Post.bind h1 fun x S2 m2 H2 s2 r2 h2 u ru => ?_⟩⟩
  split at h2
  · split at h2
    · rename_i fs ek
      split at h2
      · rename_i hl
        obtain ⟨a, dx, vs, rfl, em, ha, hd, hk⟩ := B.at r2 ru ek
        have ne : dx ≠ a := fun z => by
          rw [z, ha] at hd
          cases hd
        refine ⟨a, C, dx, vs, rfl, ha, B.cl, B.no f hf, by rw [hk.length]; exact hl, ?_⟩
        exact h2 m2 _ (r2.writeS em) (r2.writeI em ek B.ns hd ne (hk.put (rv.step s2.g))) σ (hE.step ((s1.trans s2).trans (r2.writeS em)).g)
      · exact h2.elim
    · exact h2.elim
  · exact h2.elim
end

/-! ### methods and making -/
/-- a def that keeps what it makes -/
def runK (nN : Nat) (b : SF) (ws : List W) (S : Store) : Res W := match b (start0 nN ws) S with
  | .ok (.rt w) S' => .ok w S'
  | .ok (.nx _) S' => .ok .non S'
  | .ok _ _ => .bad
  | .exc c S' => .exc c S'
  | .bad => .bad
structure MkN (P : Program) (w : World) (K : PySem.W.Frag) (mg : Str → Option Value) (base : Heap) (C : Addr) (k : Nat) (x : Str) (n : Nat) (F : List W → Store → Res W) : Prop where
  ex : ∃ (f : Addr) (fd : FuncData) (ps : List Str), ps.length = n ∧ (∀ E : Str → Hp → Prop, FnOk P w K mg base CX0 k f fd ps (spF K (fun _ => E) n F)) ∧ Meth K C x f ∧ Binds K fd ps []
structure Mk0 (P : Program) (w : World) (K : PySem.W.Frag) (mg : Str → Option Value) (base : Heap) (C : Addr) (k : Nat) (x : Str) (n : Nat) (F : List W → Store → Res W) : Prop where
  ex : ∃ (f : Addr) (fd : FuncData) (ps : List Str), ps.length = n ∧ FnOk P w K mg base CX0 k f fd ps (spF K EE0 n F) ∧ Meth K C x f ∧ Binds K fd ps []
structure MkX (P : Program) (w : World) (K : PySem.W.Frag) (mg : Str → Option Value) (base : Heap) (C : Addr) (k : Nat) (x : Str) (n : Nat) (F : List W → Store → Res W) : Prop where
  ex : ∃ (f : Addr) (fd : FuncData) (ps : List Str), ps.length = n ∧ FnOk P w K mg base (L2.CX P w) k f fd ps (spF K (EEx K) n F) ∧ Meth K C x f ∧ Binds K fd ps []
section
variable {P : Program} {w : World} {K : PySem.W.Frag} {mg : Str → Option Value} {base : Heap} {C : Addr}
theorem runK_ends {EE : Str → Hp → Prop} {N ps : List Str} {b : SF} {vs : List V} {H : Hp} {Q : VK} {n : Nat} (h : vs.length = n ∧ ∃ m ws S, RepWs K m H vs ws ∧ RepS K m H S ∧ Post K EE m H (runK N.length b ws S) (CV K Q)) :
    rS K EE b { nx := fun _ H' => Q .non H', rt := Q } (L2.start N vs) H := by
  obtain ⟨hl, m, ws, S, rv, rs, hp⟩ := h
  refine ⟨m, start0 N.length ws, S, start_rep rv, rs, ?_⟩
  unfold runK at hp
  split at hp
  · rename_i w' S' e
    rw [e]
    exact fun m' H' s' rs' v rv' => hp m' H' s' rs' v rv'
  · rename_i d' S' e
    rw [e]
    exact fun m' H' s' rs' σ' _ => hp m' H' s' rs' .non .non
  · exact hp.elim
  · rename_i c S' e
    rw [e]
    exact fun m' H' s' rs' => hp m' H' s' rs'
  · exact hp.elim
theorem OkN.ok {k n : Nat} {x : Str} {F : List W → Store → Res W} (G : OkN P w K mg base k x n F) : Ok P w K mg base k x n F := by
  obtain ⟨f, fd, ps, hl, G, hm, hk, hb⟩ := G.ex
  exact ⟨f, fd, ps, hl, G NoE, hm, hk, hb⟩
section
variable {x qual : Str} {st : Stmt} {f : Addr} {fd : FuncData} {N ps : List Str} {k : Nat} {b : SF}
theorem okNK_fn (F : Fun K x qual st f fd) (Sc : FnScope N ps (defScope st))
    (hbody : ∀ (E' : Str → Hp → Prop) (cdv : Value) (A : Around) (outer : List Env) (s : Shared) (H : Hp) (E : XK), Room k (A.deeper (PyProof.Rows.envOfC qual (defScope st) s.heap.objs.size f cdv)) → PSsv (cxOf CX0 P w K mg base N qual (defScope st) f cdv A outer s H E).nox E' (defBody st) b)
    (hg : mg x = some (.ref f)) (hb : ∀ (kV doc pm : Value) (an : Option Addr) (cdv ct : Value) (us : List Value), us.length = ps.length → bindArgs (PySem.W.fnOf x qual (defArgs st) (defBody st) (defScope st) .none kV doc pm an cdv ct) ⟨us, []⟩ = pure (ps.zip us)) :
    OkN P w K mg base (k + 1) x ps.length (runK N.length b) :=
  ⟨f, fd, ps, rfl, fun E' => F.ok Sc (fun vs H Q E h => h.1) (fun cdv A outer s H vs Q E hr h => ⟨_, hbody E' cdv A outer s H E hr, runK_ends (ps := ps) h⟩), hg, F.kp, F.binds hb⟩
theorem okXK_fn (F : Fun K x qual st f fd) (Sc : FnScope N ps (defScope st))
    (hbody : ∀ (cdv : Value) (A : Around) (outer : List Env) (s : Shared) (H : Hp) (E : XK), Room k (A.deeper (PyProof.Rows.envOfC qual (defScope st) s.heap.objs.size f cdv)) →
      Takes (cxOf (L2.CX P w) P w K mg base N qual (defScope st) f cdv A outer s H E) (fun cls d _ H => E cls d H) → PSsv (cxOf (L2.CX P w) P w K mg base N qual (defScope st) f cdv A outer s H E) (EEx K E) (defBody st) b)
    (hg : mg x = some (.ref f)) (hb : ∀ (kV doc pm : Value) (an : Option Addr) (cdv ct : Value) (us : List Value), us.length = ps.length → bindArgs (PySem.W.fnOf x qual (defArgs st) (defBody st) (defScope st) .none kV doc pm an cdv ct) ⟨us, []⟩ = pure (ps.zip us)) :
    OkX P w K mg base (k + 1) x ps.length (runK N.length b) :=
  ⟨f, fd, ps, rfl, F.okX Sc (fun vs H Q E h => h.1) (fun cdv A outer s H vs Q E hr h => ⟨_, hbody cdv A outer s H E hr (takes_of rfl rfl rfl rfl), runK_ends (ps := ps) h⟩), hg, F.kp, F.binds hb⟩
theorem okK_fn (F : Fun K x qual st f fd) (Sc : FnScope N ps (defScope st))
    (hbody : ∀ (cdv : Value) (A : Around) (outer : List Env) (s : Shared) (H : Hp) (E : XK), Room k (A.deeper (PyProof.Rows.envOfC qual (defScope st) s.heap.objs.size f cdv)) → PSsv (cxOf CX0 P w K mg base N qual (defScope st) f cdv A outer s H E).nox NoE (defBody st) b)
    (hg : mg x = some (.ref f)) (hb : ∀ (kV doc pm : Value) (an : Option Addr) (cdv ct : Value) (us : List Value), us.length = ps.length → bindArgs (PySem.W.fnOf x qual (defArgs st) (defBody st) (defScope st) .none kV doc pm an cdv ct) ⟨us, []⟩ = pure (ps.zip us)) :
    Ok P w K mg base (k + 1) x ps.length (runK N.length b) :=
  ⟨f, fd, ps, rfl, F.ok Sc (fun vs H Q E h => h.1) (fun cdv A outer s H vs Q E hr h => ⟨_, hbody cdv A outer s H E hr, runK_ends (ps := ps) h⟩), hg, F.kp, F.binds hb⟩
theorem mk0_fn (F : Fun K x qual st f fd) (Sc : FnScope N ps (defScope st))
    (hbody : ∀ (cdv : Value) (A : Around) (outer : List Env) (s : Shared) (H : Hp) (E : XK), Room k (A.deeper (PyProof.Rows.envOfC qual (defScope st) s.heap.objs.size f cdv)) → PSsv (cxOf CX0 P w K mg base N qual (defScope st) f cdv A outer s H E).nox NoE (defBody st) b)
    (hm : Meth K C x f) (hb : ∀ (kV doc pm : Value) (an : Option Addr) (cdv ct : Value) (us : List Value), us.length = ps.length → bindArgs (PySem.W.fnOf x qual (defArgs st) (defBody st) (defScope st) .none kV doc pm an cdv ct) ⟨us, []⟩ = pure (ps.zip us)) :
    Mk0 P w K mg base C (k + 1) x ps.length (runK N.length b) :=
  ⟨f, fd, ps, rfl, F.ok Sc (fun vs H Q E h => h.1) (fun cdv A outer s H vs Q E hr h => ⟨_, hbody cdv A outer s H E hr, runK_ends (ps := ps) h⟩), hm, F.binds hb⟩
theorem mkN_fn (F : Fun K x qual st f fd) (Sc : FnScope N ps (defScope st))
    (hbody : ∀ (E' : Str → Hp → Prop) (cdv : Value) (A : Around) (outer : List Env) (s : Shared) (H : Hp) (E : XK), Room k (A.deeper (PyProof.Rows.envOfC qual (defScope st) s.heap.objs.size f cdv)) → PSsv (cxOf CX0 P w K mg base N qual (defScope st) f cdv A outer s H E).nox E' (defBody st) b)
    (hm : Meth K C x f) (hb : ∀ (kV doc pm : Value) (an : Option Addr) (cdv ct : Value) (us : List Value), us.length = ps.length → bindArgs (PySem.W.fnOf x qual (defArgs st) (defBody st) (defScope st) .none kV doc pm an cdv ct) ⟨us, []⟩ = pure (ps.zip us)) :
    MkN P w K mg base C (k + 1) x ps.length (runK N.length b) :=
  ⟨f, fd, ps, rfl, fun E' => F.ok Sc (fun vs H Q E h => h.1) (fun cdv A outer s H vs Q E hr h => ⟨_, hbody E' cdv A outer s H E hr, runK_ends (ps := ps) h⟩), hm, F.binds hb⟩
theorem mkX_fn (F : Fun K x qual st f fd) (Sc : FnScope N ps (defScope st))
    (hbody : ∀ (cdv : Value) (A : Around) (outer : List Env) (s : Shared) (H : Hp) (E : XK), Room k (A.deeper (PyProof.Rows.envOfC qual (defScope st) s.heap.objs.size f cdv)) →
      Takes (cxOf (L2.CX P w) P w K mg base N qual (defScope st) f cdv A outer s H E) (fun cls d _ H => E cls d H) → PSsv (cxOf (L2.CX P w) P w K mg base N qual (defScope st) f cdv A outer s H E) (EEx K E) (defBody st) b)
    (hm : Meth K C x f) (hb : ∀ (kV doc pm : Value) (an : Option Addr) (cdv ct : Value) (us : List Value), us.length = ps.length → bindArgs (PySem.W.fnOf x qual (defArgs st) (defBody st) (defScope st) .none kV doc pm an cdv ct) ⟨us, []⟩ = pure (ps.zip us)) :
    MkX P w K mg base C (k + 1) x ps.length (runK N.length b) :=
  ⟨f, fd, ps, rfl, F.okX Sc (fun vs H Q E h => h.1) (fun cdv A outer s H vs Q E hr h => ⟨_, hbody cdv A outer s H E hr (takes_of rfl rfl rfl rfl), runK_ends (ps := ps) h⟩), hm, F.binds hb⟩
end
end
section
variable {X : Cx} {E : Str → Hp → Prop} {E0 : XK} {C : Addr} {o e : Expr} {es : List Expr} {fo : EF} {fa : AF} {m : Str} {pos apos p : Pos} {k n : Nat} {F : List W → Store → Res W}
/-- the reading of a method call -/
theorem mt_end {m0 : Str} {sp : Sp} {EE : XK} {ta : TE} {t : TA} {σ : L2.St} {H : Hp} {Q : VK} {fo : EF} {fa : AF} {n : Nat} (B : BenchC X.K X.mg C) (hta : ta = rE X.K E fo) (ht : ∀ σ H Q', rA X.K E fa σ H Q' → t σ H Q')
    (hsp : ∀ vs H Q, (vs.length = n ∧ ∃ m ws S, RepWs X.K m H vs ws ∧ RepS X.K m H S ∧ Post X.K E m H (F ws S) (CV X.K Q)) → sp vs H Q EE) (h : rE X.K E (eMt m0 n F fo fa) σ H Q) : tMeth C m0 sp [] EE ta t σ H Q := by
  subst hta
  obtain ⟨m, d, S, hE, hS, hP⟩ := h
  refine ⟨m, d, S, hE, hS, Post.bind hP fun x S1 m1 H1 s1 r1 h1 v rv => ?_⟩
  split at h1
  · split at h1
    · rename_i fs ek
      split at h1
      · rename_i en
        obtain ⟨a, dx, vs, rfl, em, ha, hd, hk⟩ := B.at r1 rv ek
        refine ⟨a, dx, vs, rfl, ha, (hk.lookup m0).2 en, ht _ _ _ ⟨m1, d, S1, hE.step s1.g, r1, Post.bind h1 fun ws S2 m2 H2 s2 r2 h2 us ru => ?_⟩⟩
        split at h2
        · rename_i hn
          exact hsp _ _ _ ⟨by rw [List.append_nil, List.length_cons, ru.length]; exact hn, m2, _, S2, by rw [List.append_nil]; exact .cons (rv.step s2.g) ru, r2, h2⟩
        · exact h2.elim
      · exact h1.elim
    · exact h1.elim
  · exact h1.elim
theorem nil_read {σ : L2.St} {H : Hp} {Q' : List V → Hp → Prop} (h : rA X.K E aNil σ H Q') : tNil σ H Q' := by
  obtain ⟨m, d, S, hE, hS, hP⟩ := h
  exact hP.ok hS [] .nil
section
variable (B : BenchC X.K X.mg C) (hr : Room k X.A) (ho : PEv X E o fo) (ha : PAv X E (e :: es) fa)
include B hr
theorem ev_mtN (G : MkN X.prog X.w X.K X.mg X.base C k m n F) (ho : PEv X E o fo) (ha : PAv X E (e :: es) fa) (hst : starEach (e :: es) X.env = (false, eval e X.env) :: starEach es X.env := by rfl) (hpl : (backTo pos (starEach es X.env)).any (·.1) = false := by rfl)
    {pl : Sem Bool} (ht : eval (.Call (.Attribute o m apos) (e :: es) [] pos) X.env = (do
      let ov ← eval o X.env
      standAt apos.atName
      let (f, first) ← holding [ov] (getMethod ov m pl)
      callWith pos f first (backTo pos (starEach (e :: es) X.env)) (backToKw pos (keywordEach [] X.env))) := by rfl) :
    PEv X E (.Call (.Attribute o m apos) (e :: es) [] pos) (eMt m n F fo fa) := by
  obtain ⟨f, fd, ps, hl, G, hm, hb⟩ := G.ex
  exact (pe_meth (E := L2.E0) (pl := pl) ho B.cl hm (G E) hr hb .nil pass0 ha hst hpl ht).weak fun σ H Q h => mt_end B rfl (fun _ _ _ h => h) (fun _ _ _ h => h) h
theorem ev_mtN0 (G : MkN X.prog X.w X.K X.mg X.base C k m n F) (ho : PEv X E o fo)
    {pl : Sem Bool} (ht : eval (.Call (.Attribute o m apos) [] [] pos) X.env = (do
      let ov ← eval o X.env
      standAt apos.atName
      let (f, first) ← holding [ov] (getMethod ov m pl)
      callWith pos f first (backTo pos (starEach [] X.env)) (backToKw pos (keywordEach [] X.env))) := by rfl) :
    PEv X E (.Call (.Attribute o m apos) [] [] pos) (eMt m n F fo aNil) := by
  obtain ⟨f, fd, ps, hl, G, hm, hb⟩ := G.ex
  exact (pe_meth0 (E := L2.E0) (pl := pl) ho B.cl hm (G E) hr hb .nil pass0 ht).weak fun σ H Q h => mt_end B rfl (fun _ _ _ h => nil_read h) (fun _ _ _ h => h) h
theorem ev_mtZ (G : Mk0 X.prog X.w X.K X.mg X.base C k m n F) (ho : PEv X NoE o fo) (ha : PAv X NoE (e :: es) fa) (hst : starEach (e :: es) X.env = (false, eval e X.env) :: starEach es X.env := by rfl) (hpl : (backTo pos (starEach es X.env)).any (·.1) = false := by rfl)
    {pl : Sem Bool} (ht : eval (.Call (.Attribute o m apos) (e :: es) [] pos) X.env = (do
      let ov ← eval o X.env
      standAt apos.atName
      let (f, first) ← holding [ov] (getMethod ov m pl)
      callWith pos f first (backTo pos (starEach (e :: es) X.env)) (backToKw pos (keywordEach [] X.env))) := by rfl) :
    PEv X NoE (.Call (.Attribute o m apos) (e :: es) [] pos) (eMt m n F fo fa) := by
  obtain ⟨f, fd, ps, hl, G, hm, hb⟩ := G.ex
  exact (pe_meth (E := L2.E0) (pl := pl) ho B.cl hm G hr hb .nil pass0 ha hst hpl ht).weak fun σ H Q h => mt_end B rfl (fun _ _ _ h => h) (fun _ _ _ h => h) h
theorem ev_mtZ0 (G : Mk0 X.prog X.w X.K X.mg X.base C k m n F) (ho : PEv X NoE o fo)
    {pl : Sem Bool} (ht : eval (.Call (.Attribute o m apos) [] [] pos) X.env = (do
      let ov ← eval o X.env
      standAt apos.atName
      let (f, first) ← holding [ov] (getMethod ov m pl)
      callWith pos f first (backTo pos (starEach [] X.env)) (backToKw pos (keywordEach [] X.env))) := by rfl) :
    PEv X NoE (.Call (.Attribute o m apos) [] [] pos) (eMt m n F fo aNil) := by
  obtain ⟨f, fd, ps, hl, G, hm, hb⟩ := G.ex
  exact (pe_meth0 (E := L2.E0) (pl := pl) ho B.cl hm G hr hb .nil pass0 ht).weak fun σ H Q h => mt_end B rfl (fun _ _ _ h => nil_read h) (fun _ _ _ h => h) h
end
section
variable (B : BenchC X.K X.mg C) (tk : Takes X (fun cls d _ H => E0 cls d H)) (hr : Room k X.A)
include B tk hr
theorem ev_mtX (G : MkX X.prog X.w X.K X.mg X.base C k m n F) (ho : PEv X (EEx X.K E0) o fo) (ha : PAv X (EEx X.K E0) (e :: es) fa) (hst : starEach (e :: es) X.env = (false, eval e X.env) :: starEach es X.env := by rfl) (hpl : (backTo pos (starEach es X.env)).any (·.1) = false := by rfl)
    {pl : Sem Bool} (ht : eval (.Call (.Attribute o m apos) (e :: es) [] pos) X.env = (do
      let ov ← eval o X.env
      standAt apos.atName
      let (f, first) ← holding [ov] (getMethod ov m pl)
      callWith pos f first (backTo pos (starEach (e :: es) X.env)) (backToKw pos (keywordEach [] X.env))) := by rfl) :
    PEv X (EEx X.K E0) (.Call (.Attribute o m apos) (e :: es) [] pos) (eMt m n F fo fa) := by
  obtain ⟨f, fd, ps, hl, G, hm, hb⟩ := G.ex
  exact (pe_meth (pl := pl) ho B.cl hm G hr hb .nil (passes_call (E := E0) tk fun _ _ _ _ h => h) ha hst hpl ht).weak fun σ H Q h => mt_end B rfl (fun _ _ _ h => h) (fun _ _ _ h => h) h
theorem ev_mtX0 (G : MkX X.prog X.w X.K X.mg X.base C k m n F) (ho : PEv X (EEx X.K E0) o fo)
    {pl : Sem Bool} (ht : eval (.Call (.Attribute o m apos) [] [] pos) X.env = (do
      let ov ← eval o X.env
      standAt apos.atName
      let (f, first) ← holding [ov] (getMethod ov m pl)
      callWith pos f first (backTo pos (starEach [] X.env)) (backToKw pos (keywordEach [] X.env))) := by rfl) :
    PEv X (EEx X.K E0) (.Call (.Attribute o m apos) [] [] pos) (eMt m n F fo aNil) := by
  obtain ⟨f, fd, ps, hl, G, hm, hb⟩ := G.ex
  exact (pe_meth0 (pl := pl) ho B.cl hm G hr hb .nil (passes_call (E := E0) tk fun _ _ _ _ h => h) ht).weak fun σ H Q h => mt_end B rfl (fun _ _ _ h => nil_read h) (fun _ _ _ h => h) h
end
/-- the reading of a making -/
theorem mk_end {sp : Sp} {EE : XK} {σ : L2.St} {H : Hp} {Q : VK} {n : Nat} (B : BenchC X.K X.mg C)
    (hsp : ∀ vs H Q, (vs.length = n ∧ ∃ m ws S, RepWs X.K m H vs ws ∧ RepS X.K m H S ∧ Post X.K E m H (F ws S) (CV X.K Q)) → sp vs H Q EE) (h : rE X.K E (eMake n F fa) σ H Q) : tMake C sp [] EE (rA X.K E fa) σ H Q := by
  obtain ⟨m, d, S, hE, hS, hP⟩ := h
  refine ⟨m, d, S, hE, hS, Post.bind hP fun ws S1 m1 H1 s1 r1 h1 vs rv => fun x dx nx nd ne => ?_⟩
  split at h1
  · rename_i hn
    have st := r1.pushIS (o := .ins C dx []) (u := .own x) nx nd
    have rs := r1.pushI (o := .ins C dx []) (u := .own x) (x := .I []) nx nd ⟨C, dx, [], rfl, B.ns, upd_same, by rw [upd_ne ne, upd_same], .nil⟩
    have em : (m1.pushI x dx).ms[S1.length]? = some [x, dx] := by
      show (m1.ms ++ [[x, dx]])[S1.length]? = _
      rw [← r1.len]
      simp
    refine hsp _ _ _ ⟨by rw [List.append_nil, List.length_cons, rv.length]; exact hn, m1.pushI x dx, _, _, by rw [List.append_nil]; exact .cons (.mt em) (rv.step st.g), rs, ?_⟩
    refine Post.bind (Post.step st h1) fun r S2 m2 H2 s2 r2 h2 v rv2 => ?_
    split at h2
    · cases rv2
      exact ⟨rfl, h2.ok r2 _ ((RepW.mt em).step s2.g)⟩
    · exact h2.elim
  · exact h1.elim
theorem ev_mkN (B : BenchC X.K X.mg C) (G : MkN X.prog X.w X.K X.mg X.base C k "__init__" n F) (hr : Room (k + 1) X.A) (ha : PAv X E (e :: es) fa) (hg : Gl X "Bench" := by rfl) (he : starEach (e :: es) X.env = (false, eval e X.env) :: starEach es X.env := by rfl) (hpl : (backTo pos (starEach es X.env)).any (·.1) = false := by rfl) :
    PEv X E (.Call (.Name "Bench" p) (e :: es) [] pos) (eMake n F fa) := by
  obtain ⟨f, fd, ps, hl, G, hm, hb⟩ := G.ex
  exact (pe_make (E := L2.E0) ⟨B.makes, hm.at_, hm.fn, B.kp⟩ (G E) hr hg B.mgC hb .nil pass0 ha (by decide) he hpl).weak fun σ H Q h => mk_end B (fun _ _ _ h => h) h
theorem ev_mkZ (B : BenchC X.K X.mg C) (G : Mk0 X.prog X.w X.K X.mg X.base C k "__init__" n F) (hr : Room (k + 1) X.A) (ha : PAv X NoE (e :: es) fa) (hg : Gl X "Bench" := by rfl) (he : starEach (e :: es) X.env = (false, eval e X.env) :: starEach es X.env := by rfl) (hpl : (backTo pos (starEach es X.env)).any (·.1) = false := by rfl) :
    PEv X NoE (.Call (.Name "Bench" p) (e :: es) [] pos) (eMake n F fa) := by
  obtain ⟨f, fd, ps, hl, G, hm, hb⟩ := G.ex
  exact (pe_make (E := L2.E0) ⟨B.makes, hm.at_, hm.fn, B.kp⟩ G hr hg B.mgC hb .nil pass0 ha (by decide) he hpl).weak fun σ H Q h => mk_end B (fun _ _ _ h => h) h
theorem ev_mkX (B : BenchC X.K X.mg C) (tk : Takes X (fun cls d _ H => E0 cls d H)) (G : MkX X.prog X.w X.K X.mg X.base C k "__init__" n F) (hr : Room (k + 1) X.A) (ha : PAv X (EEx X.K E0) (e :: es) fa) (hg : Gl X "Bench" := by rfl) (he : starEach (e :: es) X.env = (false, eval e X.env) :: starEach es X.env := by rfl) (hpl : (backTo pos (starEach es X.env)).any (·.1) = false := by rfl) :
    PEv X (EEx X.K E0) (.Call (.Name "Bench" p) (e :: es) [] pos) (eMake n F fa) := by
  obtain ⟨f, fd, ps, hl, G, hm, hb⟩ := G.ex
  exact (pe_make ⟨B.makes, hm.at_, hm.fn, B.kp⟩ G hr hg B.mgC hb .nil (passes_call (E := E0) tk fun _ _ _ _ h => h) ha (by decide) he hpl).weak fun σ H Q h => mk_end B (fun _ _ _ h => h) h
end

/-! ### len, ==, !=, isinstance -/
def isB : W → Store → Option Bool
  | .mt k, S => match S[k]? with
    | some (.I _) => some true
    | some (.L _) => some false
    | _ => none
  | .str _, _ => some false
  | .lst _, _ => some false
  | _, _ => none
theorem kitO {K : PySem.W.Frag} {mg : Str → Option Value} {C : Addr} {t : Value} {b : Bool} (B : BenchC K mg C) (ht : (t == .ref C) = false) (h : PySem.W.subIn K t (.ref C) = some b) : PySem.W.kitOne K t (.ref C) = some b := by
  unfold PySem.W.kitOne
  rw [if_neg (by rw [ht]; decide)]
  obtain ⟨cd, hc, _⟩ := PySem.W.any_some B.cl.hd
  show (if ((PySem.W.clsIn K C).isSome && PySem.W.typeIn K (.ref C) == some (.type "type")) = true then PySem.W.subIn K t (.ref C) else none) = some b
  rw [if_pos (by rw [hc, B.ty]; rfl), h]
theorem ty_B {K : PySem.W.Frag} {mg : Str → Option Value} {C : Addr} (B : BenchC K mg C) {m : Own} {H : Hp} {S : Store} {v : V} {w : W} {b : Bool} (rs : RepS K m H S) (rv : RepW K m H v w) (h : isB w S = some b) :
    ∃ t, TyX K H v t ∧ PySem.W.kitOne K t (.ref C) = some b ∧ PySem.W.notFirst K C t = true := by
  have hL : ∀ a vs, H a = some (.lst vs) → ∃ t, TyX K H (.ref a) t ∧ PySem.W.kitOne K t (.ref C) = some false ∧ PySem.W.notFirst K C t = true := fun a vs e =>
    ⟨.type "list", .base (.lst e), kitO B rfl B.sl, by unfold PySem.W.notFirst; rw [B.sl]; simp⟩
  cases w with
  | mt k =>
    simp only [isB] at h
    split at h
    · rename_i fs e
      cases h
      obtain ⟨a, dx, vs, rfl, em, ha, hd, hk⟩ := B.at rs rv e
      exact ⟨.ref C, .base (.ins ha B.cl B.ha B.hn B.htk B.hm), by unfold PySem.W.kitOne; simp, by unfold PySem.W.notFirst; simp⟩
    · rename_i ws e
      cases h
      cases rv with
      | @mt k a l em =>
        obtain ⟨a', l', em', hl, vs, h1, _⟩ := rs.obj k _ e
        rw [em] at em'
        cases em'
        exact hL _ _ h1
    · cases h
  | str x =>
    cases h
    cases rv
    exact ⟨.type "str", .base (.str _), kitO B rfl B.ss, by unfold PySem.W.notFirst; rw [B.ss]; simp⟩
  | lst ws =>
    cases h
    cases rv with
    | lst q1 q2 => exact hL _ _ q1.1
  | _ => cases h
def bIsB (x : W) (S : Store) : Res W := match isB x S with
  | some b => .ok (.bl b) S
  | none => .bad
def wLenO (F : List W → Store → Res W) (x : W) (S : Store) : Res W := match isB x S with
  | some true => (F [x] S).bind fun r S2 => match r with
    | .int n => if 0 ≤ n ∧ n < 2 ^ 63 then .ok (.int n) S2 else .bad
    | _ => .bad
  | _ => .bad
def bLenO (F : List W → Store → Res W) (ws : List W) (S : Store) : Res W := match ws with
  | [x] => wLenO F x S
  | _ => .bad
def wEqO (F : List W → Store → Res W) (x y : W) (S : Store) : Res W := match isB x S, isB y S with
  | some true, some _ => (F [x, y] S).bind fun r S2 => match r with
    | .bl b => .ok (.bl b) S2
    | _ => .bad
  | _, _ => .bad
def wNeO (F : List W → Store → Res W) (x y : W) (S : Store) : Res W := match isB x S, isB y S with
  | some true, some _ => (F [x, y] S).bind fun r S2 => match r with
    | .bl b => .ok (.bl (!b)) S2
    | _ => .bad
  | _, _ => .bad
section
variable {X : Cx} {E : Str → Hp → Prop} {C : Addr} {k : Nat} {F : List W → Store → Res W}
/-- a method runs somewhere below -/
theorem run_below {A : Around} {m : Str} {n : Nat} {pins : List (Addr × Obj)} {σ : L2.St} {H : Hp} {s : Shared} {vs : List V} {us : List Value} {Q : VK} (G : MkN X.prog X.w X.K X.mg X.base C k m n F) (hr : Room k A) (hA : A.frames = X.A.frames) (I : Inv X pins σ H s) (r : Vals vs us)
    (h : vs.length = n ∧ ∃ m ws S, RepWs X.K m H vs ws ∧ RepS X.K m H S ∧ Post X.K E m H (F ws S) (CV X.K Q)) : ∃ f, Meth X.K C m f ∧ wpAny (model X.prog X.w) A (call (.ref f) us) (EP X pins σ Q) X.xe s := by
  obtain ⟨f, fd, ps, hl, G, hm, hb⟩ := G.ex
  refine ⟨f, hm, ?_⟩
  have e0 : Env0 X.prog X.w X.K X.mg X.base A X.stack s H := by
    have e := I.env0
    exact ⟨by rw [hA]; exact e.frames, e.mod, e.bs, e.bsz, e.funs, e.frf, e.hok, e.bare⟩
  have hsp : spF X.K (fun _ => E) n F vs H Q L2.E0 := h
  have hl' : us.length = ps.length := by rw [← r.length, h.1, hl]
  refine wpAny_call (codeAny_mono ((G E).run A X.stack s H ⟨us, []⟩ us vs Q L2.E0 hr e0 (by
    have := hb s us I.kIn (by simpa using hl')
    simpa using this) r hsp) fun r s' hq => ?_)
  cases r with
  | error e => exact pass0 pins σ H s e s' I hq
  | ok fl =>
    cases fl with
    | ret u => exact I.after hq
    | next => exact False.elim hq
    | brk => exact False.elim hq
    | cont => exact False.elim hq
theorem c_lenO (B : BenchC X.K X.mg C) (G : MkN X.prog X.w X.K X.mg X.base C k "__len__" 1 F) (hr : Room (k + 1) X.A) : CallR X (.builtin "len") (rF X.K E (bLenO F)) := by
  intro pins s σ H xs us Q I r h
  obtain ⟨m, ws, S, rs, rv, hp⟩ := h
  cases rv with
  | nil => exact hp.elim
  | cons rx rr =>
    cases rr with
    | cons _ _ => exact hp.elim
    | nil =>
      rename_i v w
      simp only [bLenO] at hp
      unfold wLenO at hp
      split at hp
      · rename_i hi
        cases r with
        | cons q1 q2 =>
          cases q2
          rename_i u
          cases w with
          | mt k' =>
            simp only [isB] at hi
            split at hi
            · rename_i fs ek
              obtain ⟨a, dx, vs, rfl, em, ha, hd, hk⟩ := B.at rs rx ek
              cases q1
              obtain ⟨mA, J, _⟩ := ins_get I.hok ha
              obtain ⟨od, J, _⟩ := J.look
              obtain ⟨mm, hF⟩ := I.fr
              obtain ⟨f, hm, hw⟩ := run_below (E := E) (A := X.A.in1) (us := [.ref a]) (vs := [.ref a]) (Q := fun v H' => ∃ n, v = .int n ∧ (0 ≤ n ∧ n < 2 ^ 63) ∧ Q (.int n) H') G hr.in1 rfl I (.cons rfl .nil) ⟨rfl, m, _, S, .cons rx .nil, rs, Post.bind hp fun r2 S2 m2 H2 s2 rs2 h2 v2 rv2 => by
                split at h2
                · split at h2
                  · rename_i hb
                    cases rv2
                    exact ⟨_, rfl, hb, h2.ok rs2 _ (.int _)⟩
                  · exact h2.elim
                · exact h2.elim⟩
              refine PySem.W.len_K hF I.ok.mod.kin J hm.at_ hm.fn (wpAny_mono hw (fun u s' q => ?_) fun _ _ z => z)
              obtain ⟨z, H', I', rz, n, rfl, hb, q⟩ := q
              obtain ⟨t, rfl⟩ := (show ∃ t, u = Value.int n t from rz)
              exact ⟨hb, .int n, H', I'.tok _, ⟨_, rfl⟩, q⟩
            · cases hi
            · cases hi
          | _ => simp [isB] at hi
      · exact hp.elim
theorem o_eqO (B : BenchC X.K X.mg C) (G : MkN X.prog X.w X.K X.mg X.base C k "__eq__" 2 F) (hr : Room (k + 1) X.A) : OpR X (compareOp .Eq) (rO X.K E (wEqO F)) := by
  intro pins s σ H x y v u Q I rx ry h
  obtain ⟨m, wx, wy, S, rs, qx, qy, hp⟩ := h
  unfold wEqO at hp
  split at hp
  · rename_i b hx hy
    obtain ⟨t, ht, _, hnf⟩ := ty_B B rs qy hy
    obtain ⟨P, KX, hP, _⟩ := kit_of I ry ht
    cases wx with
    | mt k' =>
      simp only [isB] at hx
      split at hx
      · rename_i fs ek
        obtain ⟨a, dx, vs, rfl, em, ha, hd, hk⟩ := B.at rs qx ek
        cases rx
        obtain ⟨mA, J, _⟩ := ins_get I.hok ha
        obtain ⟨od, J, _⟩ := J.look
        obtain ⟨mm, hF⟩ := I.fr
        obtain ⟨f, hm, hw⟩ := run_below (E := E) (A := X.A) (us := [.ref a, u]) (vs := [.ref a, y]) (Q := fun v H' => ∃ b, v = .bl b ∧ Q (.bl b) H') G (hr.mono (Nat.le_succ _)) rfl I (.cons rfl (.cons ry .nil)) ⟨rfl, m, _, S, .cons qx (.cons qy .nil), rs, Post.bind hp fun r2 S2 m2 H2 s2 rs2 h2 v2 rv2 => by
          split at h2
          · cases rv2
            exact ⟨_, rfl, h2.ok rs2 _ (.bl _)⟩
          · exact h2.elim⟩
        refine PySem.W.cmp_K (op := .Eq) (tb := t) hr.units0 hF I.ok.mod.kin J (KX.ty _ _ I.kIn hP) hnf hm.at_ hm.fn (wpAny_mono hw (fun u s' q => ?_) fun _ _ z => z)
        obtain ⟨z, H', I', rz, b, rfl, q⟩ := q
        cases rz
        exact ⟨.bl b, H', I', rfl, q⟩
      · cases hx
      · cases hx
    | _ => simp [isB] at hx
  · exact hp.elim
/-- x != y by the own == -/
theorem one_slot : Slot "object" "__ne__" "object.__ne__" :=
  (Slot.of (T := "object") (name := "__ne__") (owner := "object") (n := "__ne__") (by rw [typeLookup_type, builtinLookup_eq_fast]; kernel_rfl) (by decide +kernel) (by decide +kernel) (by decide +kernel)
    (.inl (by decide +kernel)) (by rw [isSubtype_type]; kernel_rfl))
theorem ne_K {prog : Program} {w : World} {A : Around} {E : Value → Shared → Prop} {s : Shared} {K : PySem.W.Frag} {x C f : Addr} {ox : Obj} {od : Option Obj} {b tb : Value} {Q : Value → Shared → Prop}
    (hu : A.units + 1 < cLine) (X : K.In s.heap) (I : PySem.W.InstAt s.heap x ox C od) (hb : PySem.W.Looks (model prog w) s.heap (typeOf b) tb) (hn : PySem.W.notFirst K C tb = true)
    (hne : PySem.W.findIn K (.ref C) "__ne__" = some (some (.builtin "object.__ne__"))) (hm : PySem.W.mroIn K C (.type "object") = some true) (hs : PySem.W.findIn K (.ref C) "__eq__" = some (some (.ref f))) (hf : PySem.W.isFn K (.ref f) = true)
    (h : wpAny (model prog w) A.in1 (call (.ref f) [.ref x, b]) (fun v s' => ∃ r, v = .bool r ∧ Q (.bool (!r)) s') E s) : wpAny (model prog w) A (richCompare .NotEq (.ref x) b) Q E s := by
  have ent : wpAny (model prog w) A.in1 (Builtin.«object.__ne__» ⟨[.ref x, b], []⟩) (fun fin s' => ∃ r, fin = .done (.ret (.bool (!r))) ∧ Q (.bool (!r)) s') E s := by
    unfold Builtin.«object.__ne__»
    repeat (first
      | with_reducible refine wpAny_cRoomFor hu ?_
      | (refine wpAny_bind (m := callSpecialIfBound? (.ref x) (Str.ofString "__eq__") [b])
          (PySem.W.ifBound_K X I hs hf (wpAny_mono h (fun r s' hr => by
            obtain ⟨b, rfl, hq⟩ := hr
            repeat (first | exact ⟨_, rfl, hq⟩ | exact wpAny_pure ⟨_, rfl, hq⟩ | exact wpAny_truthy_bool ⟨_, rfl, hq⟩ | (refine wpAny_bind (m := truthy (.bool _)) (wpAny_truthy_bool ?_)) | wp_step)) fun _ _ e => e)))
      | wp_step)
  have one : wpAny (model prog w) A (tryCompare (.ref x) "__ne__" b) (fun r s' => ∃ v, r = some v ∧ Q v s') E s := by
    unfold tryCompare
    have cl : wpAny (model prog w) A (call (.builtin "object.__ne__") ([.ref x] ++ [b])) (fun v s' => ∃ r, v = .bool r ∧ Q (.bool r) s') E s := by
      refine wpAny_call (codeAny_call_builtin one_slot.plain F.cmpEntry_ne (PySem.W.check_slot (i := "object.__ne__") (owner := "object") (n := "__ne__") F.cmpKind_ne F.cmpSplit_ne (I.type.andThen (PySem.W.looks_mroIn X hm)) (F.cmpArgs_ne _ _) ?_))
      refine wpAny_mono ent (fun fin s' q => ?_) fun _ _ z => z
      obtain ⟨r, rfl, q⟩ := q
      exact ⟨_, rfl, q⟩
    refine wpAny_bind ?_
    simp only [callSpecialIfBound?, bindSpecialIfBound?]
    refine wpAny_holding (wpAny_bind (wpAny_bind (wpAny_bind (I.type.here ((PySem.W.looks_findIn X hne).here ?_)))))
    refine wpAny_bind (wpAny_askSetting (wpAny_ite ?_))
    have fin : wpAny (model prog w) A (call (.builtin "object.__ne__") ([.ref x] ++ [b]) >>= fun v => pure (some v)) (fun r s' => ∃ t, r = some (.bool t) ∧ Q (.bool t) s') E s := wpAny_bind (wpAny_mono cl (fun v s' h' => by
      obtain ⟨r, rfl, q⟩ := h'
      exact wpAny_pure ⟨r, rfl, q⟩) fun _ _ h' => h')
    have fin2 := wpAny_mono fin (fun v s' h' => show (fun v s' => ∃ t, v = some (Value.bool t) ∧ Q (.bool t) s') v s' from h') fun _ _ z => z
    split
    · refine wpAny_bind ((PySem.W.Looks.of_pure (one_slot.bind _)).here (wpAny_pure ?_))
      exact wpAny_mono fin (fun v s' h' => by
        obtain ⟨r, rfl, q⟩ := h'
        exact wpAny_pure ⟨_, rfl, q⟩) fun _ _ z => z
    · refine wpAny_tryCatch (wpAny_bind ((PySem.W.Looks.of_pure (one_slot.bind _)).here (wpAny_pure ?_)))
      exact wpAny_mono fin (fun v s' h' => by
        obtain ⟨r, rfl, q⟩ := h'
        exact wpAny_pure ⟨_, rfl, q⟩) fun _ _ z => z
  unfold richCompare
  simp only [oneThing_ref]
  refine wpAny_holding (wpAny_bind (wpAny_cRoomFor (Nat.lt_of_succ_lt hu) ?_))
  rw [cmpInfo_NotEq]
  dsimp only
  refine wpAny_bind (I.type.here (wpAny_bind (hb.here ?_)))
  split
  · rename_i q
    have e : PySem.W.subIn K tb (.ref C) = some false := by
      rcases Bool.or_eq_true_iff.mp hn with e | e
      · rw [beq_iff_eq.mp e] at q; simp at q
      · exact beq_iff_eq.mp e
    refine wpAny_bind ((PySem.W.looks_subIn X e).here ?_)
    simp only [Bool.false_eq_true, if_false]
    refine wpAny_bind (wpAny_mono one (fun r s' z => ?_) fun _ _ e => e)
    obtain ⟨v, rfl, hq⟩ := z
    exact wpAny_pure hq
  · refine wpAny_bind (wpAny_pure ?_)
    simp only [Bool.false_eq_true, if_false]
    refine wpAny_bind (wpAny_mono one (fun r s' z => ?_) fun _ _ e => e)
    obtain ⟨v, rfl, hq⟩ := z
    exact wpAny_pure hq
theorem o_neO (B : BenchC X.K X.mg C) (G : MkN X.prog X.w X.K X.mg X.base C k "__eq__" 2 F) (hr : Room (k + 1) X.A) : OpR X (compareOp .NotEq) (rO X.K E (wNeO F)) := by
  intro pins s σ H x y v u Q I rx ry h
  obtain ⟨m, wx, wy, S, rs, qx, qy, hp⟩ := h
  unfold wNeO at hp
  split at hp
  · rename_i b hx hy
    obtain ⟨t, ht, _, hnf⟩ := ty_B B rs qy hy
    obtain ⟨P, KX, hP, _⟩ := kit_of I ry ht
    cases wx with
    | mt k' =>
      simp only [isB] at hx
      split at hx
      · rename_i fs ek
        obtain ⟨a, dx, vs, rfl, em, ha, hd, hk⟩ := B.at rs qx ek
        cases rx
        obtain ⟨mA, J, _⟩ := ins_get I.hok ha
        obtain ⟨od, J, _⟩ := J.look
        obtain ⟨f, hm, hw⟩ := run_below (E := E) (A := X.A.in1) (us := [.ref a, u]) (vs := [.ref a, y]) (Q := fun v H' => ∃ b, v = .bl b ∧ Q (.bl (!b)) H') G hr.in1 rfl I (.cons rfl (.cons ry .nil)) ⟨rfl, m, _, S, .cons qx (.cons qy .nil), rs, Post.bind hp fun r2 S2 m2 H2 s2 rs2 h2 v2 rv2 => by
          split at h2
          · cases rv2
            exact ⟨_, rfl, h2.ok rs2 _ (.bl _)⟩
          · exact h2.elim⟩
        show wpAny (model X.prog X.w) X.A (richCompare .NotEq (.ref a) u) (EP X pins σ Q) X.xe s
        refine ne_K (by have := hr.units; omega) I.kIn J (KX.ty _ _ I.kIn hP) hnf B.ne B.hm hm.at_ hm.fn (wpAny_mono hw (fun u s' q => ?_) fun _ _ z => z)
        obtain ⟨z, H', I', rz, b, rfl, q⟩ := q
        cases rz
        exact ⟨b, rfl, .bl (!b), H', I', rfl, q⟩
      · cases hx
      · cases hx
    | _ => simp [isB] at hx
  · exact hp.elim
theorem ev_isB {e : Expr} {f : EF} {p p2 pos : Pos} (B : BenchC X.K X.mg C) (he : PEv X E e f) (hg : Gl X "isinstance") (hm : X.mg "isinstance" = none) (hgx : Gl X "Bench" := by rfl)
    (h1 : starEach [e, .Name "Bench" p2] X.env = [(false, eval e X.env), (false, eval (.Name "Bench" p2) X.env)] := by rfl) (h2 : starEach [.Name "Bench" p2] X.env = [(false, eval (.Name "Bench" p2) X.env)] := by rfl) (hpl : (backTo pos (starEach [.Name "Bench" p2] X.env)).any (·.1) = false := by rfl) :
    PEv X E (.Call (.Name "isinstance" p) [e, .Name "Bench" p2] [] pos) (eUn bIsB f) := by
  refine (pe_callB call_isi hg hm (by decide +kernel) (pa_cons he (pa_cons (pe_glob (v := .ref C) hgx B.mgC rfl (by decide)) pa_nil h2) h1) (by decide) (by decide) h1 hpl).weak fun σ H Q ⟨m, d, S, he, hs, hp⟩ => ?_
  refine ⟨m, d, S, he, hs, Post.bind hp fun z S1 m1 H1 s1 r1 h1 v rv => ?_⟩
  unfold bIsB at h1
  split at h1
  · rename_i b e
    obtain ⟨t, ht, hk, _⟩ := ty_B B r1 rv e
    exact ⟨v, .ref C, t, .ref C, b, rfl, .own C, ht, hk, h1.ok r1 _ (.bl b)⟩
  · exact h1.elim
end
end Iv
end
section
set_option maxHeartbeats 2000000
set_option maxRecDepth 100000
namespace Iv
open PySem PySem.Spec PyProof.Rows L2

theorem le_size {n : Nat} (h : n ≤ 100000) : n ≤ sizeLine := by rw [sizeLine_eq]; omega
theorem Post.mono {α : Type} {K : PySem.W.Frag} {E : Str → Hp → Prop} {m : Own} {H : Hp} {r : Res α} {C C' : Own → Hp → α → Prop} (h : Post K E m H r C) (hc : ∀ m' H' a, C m' H' a → C' m' H' a) : Post K E m H r C' := by
  cases r with
  | ok a S' => exact fun m' H' s rs => hc _ _ _ (h m' H' s rs)
  | exc c S' => exact h
  | bad => exact h
/-! ### f-strings -/
def wFmt (x : W) (S : Store) : Res W := match x with
  | .str y => if y.length ≤ 100000 then .ok (.str y) S else .bad
  | .int i => if i.natAbs.log2 < 1920 then .ok (.str (toString i)) S else .bad
  | _ => .bad
def jsF : List EF → Str → En → Store → Res W
  | [], acc, _, S => .ok (.str acc) S
  | f :: fs, acc, d, S => (f d S).bind fun x S1 => match x with
    | .str y => if (acc ++ y).length ≤ 100000 then jsF fs (acc ++ y) d S1 else .bad
    | _ => .bad
def eJs (fs : List EF) : EF := fun d S => jsF fs Str.empty d S
inductive PJv (X : Cx) (E : Str → Hp → Prop) : List Expr → List EF → Prop where
  | nil : PJv X E [] []
  | cons {e : Expr} {f : EF} {es : List Expr} {fs : List EF} (h : PEv X E e f) (r : PJv X E es fs) : PJv X E (e :: es) (f :: fs)
section
variable {X : Cx} {E : Str → Hp → Prop} {e v1 v2 : Expr} {rest : List Expr} {f : EF} {fs : List EF} {pos : Pos}
theorem ev_fmt (he : PEv X E e f) : PEv X E (.FormattedValue e (-1) none pos) (eUn wFmt f) := by
  refine (pe_fmt he).weak fun σ H Q ⟨m, d, S, hE, hS, hP⟩ => ?_
  refine ⟨m, d, S, hE, hS, Post.bind hP fun x S1 m1 H1 s1 r1 h1 v rv => ?_⟩
  unfold wFmt at h1
  split at h1
  · split at h1
    · rename_i y hy
      cases rv
      exact .inl ⟨_, rfl, le_size hy, h1.ok r1 _ (.str _)⟩
    · exact h1.elim
  · split at h1
    · rename_i i hi
      cases rv
      exact .inr ⟨_, rfl, hi, h1.ok r1 _ (.str _)⟩
    · exact h1.elim
  · exact h1.elim
theorem PJv.pj {es : List Expr} {fs : List EF} (h : PJv X E es fs) : PJ X es (fs.map (rE X.K E)) := by
  induction h with
  | nil => exact .nil
  | cons h r ih => exact .cons h ih
theorem js_end : ∀ (fs : List EF) (acc : Str) {σ : L2.St} {H : Hp} {Q : Str → Hp → Prop} {m : Own} {d : En} {S : Store}, RepE X.K m H σ d → RepS X.K m H S → Post X.K E m H (jsF fs acc d S) (fun _ H' w => ∀ y, w = .str y → Q y H') → tJs (fs.map (rE X.K E)) acc σ H Q
  | [], acc, σ, H, Q, m, d, S, hE, hS, hP => hP.ok hS acc rfl
  | f :: fs, acc, σ, H, Q, m, d, S, hE, hS, hP => by
    refine ⟨m, d, S, hE, hS, Post.bind hP fun x S1 m1 H1 s1 r1 h1 v rv => ?_⟩
    split at h1
    · split at h1
      · rename_i y hy
        cases rv
        exact ⟨_, rfl, le_size hy, js_end fs _ (hE.step s1.g) r1 h1⟩
      · exact h1.elim
    · exact h1.elim
theorem ev_js (h : PJv X E (v1 :: v2 :: rest) fs) : PEv X E (.JoinedStr (v1 :: v2 :: rest) pos) (eJs fs) := by
  refine (pe_joined h.pj).weak fun σ H Q ⟨m, d, S, hE, hS, hP⟩ => ?_
  exact js_end fs Str.empty hE hS (Post.mono hP fun m' H' a h y e => by subst e; exact h _ (.str y))
end
/-! ### str(..) -/
def bStr (ws : List W) (S : Store) : Res W := match ws with
  | [.int i] => if i.natAbs.log2 < 1920 then .ok (.str (toString i)) S else .bad
  | _ => .bad
def bStrO (F : List W → Store → Res W) (ws : List W) (S : Store) : Res W := match ws with
  | [x] => match isB x S with
    | some true => (F [x] S).bind fun r S2 => match r with
      | .str y => .ok (.str y) S2
      | _ => .bad
    | _ => .bad
  | _ => .bad
section
variable {X : Cx} {E : Str → Hp → Prop} {C : Addr} {k : Nat} {F : List W → Store → Res W}
theorem c_str : CallR X (.type "str") (rF X.K E bStr) := call_str_int.weak fun xs H Q ⟨m, ws, S, rs, rv, hp⟩ => by
  unfold bStr at hp
  split at hp
  · split at hp
    · rename_i i hi
      cases rv with
      | cons h1 h2 =>
        cases h2
        cases h1
        exact ⟨_, rfl, hi, hp.ok rs _ (.str _)⟩
    · exact hp.elim
  · exact hp.elim
theorem c_strO (B : BenchC X.K X.mg C) (G : MkN X.prog X.w X.K X.mg X.base C k "__str__" 1 F) (hr : Room (k + 2) X.A) : CallR X (.type "str") (rF X.K E (bStrO F)) := by
  intro pins s σ H xs us Q I r h
  obtain ⟨m, ws, S, rs, rv, hp⟩ := h
  cases rv with
  | nil => exact hp.elim
  | cons rx rr =>
    cases rr with
    | cons _ _ => exact hp.elim
    | nil =>
      rename_i v w
      simp only [bStrO] at hp
      split at hp
      · rename_i hi
        cases r with
        | cons q1 q2 =>
          cases q2
          rename_i u
          cases w with
          | mt k' =>
            simp only [isB] at hi
            split at hi
            · rename_i fs ek
              obtain ⟨a, dx, vs, rfl, em, ha, hd, hk⟩ := B.at rs rx ek
              cases q1
              obtain ⟨mA, J, _⟩ := ins_get I.hok ha
              obtain ⟨od, J, _⟩ := J.look
              obtain ⟨f, hm, hw⟩ := run_below (E := E) (A := X.A.in1.in1) (us := [.ref a]) (vs := [.ref a]) (Q := fun v H' => ∃ n, v = .str n ∧ Q (.str n) H') G hr.in1.in1 rfl I (.cons rfl .nil) ⟨rfl, m, _, S, .cons rx .nil, rs, Post.bind hp fun r2 S2 m2 H2 s2 rs2 h2 v2 rv2 => by
                split at h2
                · cases rv2
                  exact ⟨_, rfl, h2.ok rs2 _ (.str _)⟩
                · exact h2.elim⟩
              refine PySem.W.kso_call hr.in1.in1.units0 I.kIn J hm.at_ hm.fn (wpAny_mono hw (fun u s' q => ?_) fun _ _ z => z)
              obtain ⟨z, H', I', rz, n, rfl, q⟩ := q
              obtain ⟨t, rfl⟩ := (show ∃ t, u = Value.str n t from rz)
              exact ⟨.str n, H', I', ⟨_, rfl⟩, q⟩
            · cases hi
            · cases hi
          | _ => simp [isB] at hi
      · exact hp.elim
end
end Iv
end
section
set_option maxHeartbeats 2000000
set_option maxRecDepth 100000
namespace Iv
open PySem PySem.Spec PyProof.Rows L2

/-! ### the signs of a text -/
def chrs (x : Str) : List W := x.cps.toList.map fun c => .str ⟨#[c]⟩
def iStrF (f : EF) : IF := fun d S => (f d S).bind fun x S1 => match x with
  | .str y => .ok (chrs y) S1
  | _ => .bad
theorem chrs_length (x : Str) : (chrs x).length = x.cps.size := by simp [chrs]
theorem itok_str {K : PySem.W.Frag} {m : Own} {H : Hp} (x : Str) : ItOk K m H (Its x) (chrs x) where
  go := fun m' H' g i hi => by rw [chrs_length] at hi; exact hi
  stop := fun m' H' g i hi => by rw [chrs_length] at hi; exact Nat.le_of_eq hi.symm
  yld := fun m' H' S' g rs i v H'' hi y => by
    obtain ⟨e, c, hc, hv⟩ := y
    subst e hv
    refine ⟨Step.refl, rs, .str ⟨#[c]⟩, ?_, .str _⟩
    unfold chrs
    rw [List.getElem?_map, Array.getElem?_toList, hc]
    rfl
section
variable {X : Cx} {E : Str → Hp → Prop} {tg e o e2 : Expr} {f fo g : EF} {pos apos p : Pos}
theorem iv_str (he : PEv X E e f) : PIv X E tg e (iStrF f) := (pi_str he).weak fun σ H R ⟨m, d, S, hE, hS, hP⟩ => by
  refine ⟨m, d, S, hE, hS, Post.bind hP fun x S1 m1 H1 s1 r1 h1 v rv => ?_⟩
  split at h1
  · cases rv
    exact ⟨_, rfl, h1.ok r1 _ (itok_str _)⟩
  · exact h1.elim
/-! ### join, split -/
def strsOf : List W → Option (List Str)
  | [] => some []
  | .str s :: r => (strsOf r).map (s :: ·)
  | _ :: _ => none
theorem rep_strs : ∀ {K : PySem.W.Frag} {m : Own} {H : Hp} {vs : List V} {ws : List W} {ss : List Str}, RepWs K m H vs ws → strsOf ws = some ss → vs = ss.map V.str
  | _, _, _, _, _, ss, .nil, h => by
    simp only [strsOf, Option.some.injEq] at h
    subst h
    rfl
  | _, _, _, _, _, ss, .cons (w := w) hv hr, h => by
    cases w with
    | str s =>
      simp only [strsOf, Option.map_eq_some_iff] at h
      obtain ⟨r, hr', rfl⟩ := h
      cases hv
      rw [rep_strs hr hr']
      rfl
    | _ => simp [strsOf] at h
theorem strs_rep {K : PySem.W.Frag} {m : Own} {H : Hp} : ∀ ss : List Str, RepWs K m H (ss.map V.str) (ss.map W.str)
  | [] => .nil
  | s :: r => .cons (.str s) (strs_rep r)
/-- a method of a text -/
def eSm (w : Str → W → Store → Res W) (fo f : EF) : EF := fun d S => (fo d S).bind fun x S1 => match x with
  | .str a => (f d S1).bind fun y S2 => w a y S2
  | _ => .bad
def wJoin (a : Str) (y : W) (S : Store) : Res W := match listOf y S with
  | some ws => match strsOf ws with
    | some ys => if (ys.map (·.length)).sum + ys.length * a.length ≤ 100000 then .ok (.str (Txt.join a ys)) S else .bad
    | none => .bad
  | none => .bad
theorem ev_join (ho : PEv X E o fo) (he : PEv X E e f) (hs : starEach [e] X.env = [(false, eval e X.env)] := by rfl) (hbase : attributeBase o "join" X.env (eval o X.env) = eval o X.env := by rfl) (hline : (apos.endLine == pos.line) = true := by rfl) :
    PEv X E (.Call (.Attribute o "join" apos) [e] [] pos) (eSm wJoin fo f) := (pe_join ho he hs hbase hline).weak fun σ H Q ⟨m, d, S, hE, hS, hP⟩ => by
  refine ⟨m, d, S, hE, hS, Post.bind hP fun x S1 m1 H1 s1 r1 h1 v rv => ?_⟩
  split at h1
  · rename_i a
    cases rv
    refine ⟨⟨a, rfl⟩, m1, d, S1, hE.step s1.g, r1, Post.bind h1 fun y S2 m2 H2 s2 r2 h2 u ru => ?_⟩
    unfold wJoin at h2
    split at h2
    · rename_i ws e1
      split at h2
      · rename_i ys e2
        split at h2
        · rename_i hz
          obtain ⟨p, vs, rfl, hl, hr⟩ := ru.list r2 e1
          have ev := rep_strs hr e2
          subst ev
          exact ⟨a, p, ys, rfl, rfl, .inl (.inl (.inl hl)), by omega, h2.ok r2 _ (.str _)⟩
        · exact h2.elim
      · exact h2.elim
    · exact h2.elim
  · exact h1.elim
def wSplit (a : Str) (y : W) (S : Store) : Res W := match y with
  | .str b => if (b.length == 0) = false ∧ a.length ≤ 90000 then .ok (.lst ((Txt.split a b).map .str)) S else .bad
  | _ => .bad
theorem ev_split (ho : PEv X E o fo) (he : PEv X E e f) (hs : starEach [e] X.env = [(false, eval e X.env)] := by rfl) (hbase : attributeBase o "split" X.env (eval o X.env) = eval o X.env := by rfl) (hline : (apos.endLine == pos.line) = true := by rfl) :
    PEv X E (.Call (.Attribute o "split" apos) [e] [] pos) (eSm wSplit fo f) := (pe_split ho he hs hbase hline).weak fun σ H Q ⟨m, d, S, hE, hS, hP⟩ => by
  refine ⟨m, d, S, hE, hS, Post.bind hP fun x S1 m1 H1 s1 r1 h1 v rv => ?_⟩
  split at h1
  · rename_i a
    cases rv
    refine ⟨⟨a, rfl⟩, m1, d, S1, hE.step s1.g, r1, Post.bind h1 fun y S2 m2 H2 s2 r2 h2 u ru => ?_⟩
    unfold wSplit at h2
    split at h2
    · split at h2
      · rename_i b hz
        cases ru
        exact ⟨a, _, rfl, rfl, hz.1, le_size (by omega), fun l nl => h2 m2 _ (r2.allocS nl) (r2.alloc nl) _ (newLst r2 nl (strs_rep _))⟩
      · exact h2.elim
    · exact h2.elim
  · exact h1.elim
/-! ### int(text), signs, list(text) -/
def bIntS (ws : List W) (S : Store) : Res W := match ws with
  | [.str a] => match PySem.intText? a with
    | some n => if a.length ≤ 640 then .ok (.int n) S else .bad
    | none => .bad
  | _ => .bad
theorem c_intS : CallR X (.type "int") (rF X.K E bIntS) := call_int_str.weak fun xs H Q ⟨m, ws, S, rs, rv, hp⟩ => by
  unfold bIntS at hp
  split at hp
  · split at hp
    · rename_i n hn
      split at hp
      · rename_i hl
        cases rv with
        | cons h1 h2 =>
          cases h2
          cases h1
          exact ⟨_, n, rfl, hn, hl, hp.ok rs _ (.int _)⟩
      · exact hp.elim
    · exact hp.elim
  · exact hp.elim
def wInS (x y : W) (S : Store) : Res W := match x, y with
  | .str a, .str z => match a.cps.toList with
    | [c] => .ok (.bl (decide (c ∈ z.cps.toList))) S
    | _ => .bad
  | _, _ => .bad
theorem o_inS : OpR X (compareOp .In) (rO X.K E wInS) := op_inS.weak fun x y H Q ⟨m, wx, wy, S, rs, rx, ry, hp⟩ => by
  unfold wInS at hp
  split at hp
  · split at hp
    · rename_i a z l c hc
      cases rx
      cases ry
      refine ⟨c, _, ?_, rfl, hp.ok rs _ (.bl _)⟩
      have : a.cps = #[c] := by rw [← Array.toArray_toList (xs := a.cps), hc]
      obtain ⟨q⟩ := a
      simp only at this
      subst this
      rfl
    · exact hp.elim
  · exact hp.elim
def bListS (ws : List W) (S : Store) : Res W := match ws with
  | [.str a] => if a.length ≤ 100000 then .ok (.lst (chrs a)) S else .bad
  | _ => .bad
theorem vals_chr {x : Str} {acc : Array Value} (h : ItemsOf (SignAt x) acc x.cps.size) : Vals (x.cps.toList.map fun c => V.str ⟨#[c]⟩) acc.toList := by
  refine vals_of_at (by simp [h.1]) fun j v u h1 h2 => ?_
  rw [Array.getElem?_toList] at h2
  obtain ⟨c, t, hc, rfl⟩ := h.2 j u h2
  rw [List.getElem?_map, Array.getElem?_toList, hc] at h1
  cases h1
  exact ⟨t, rfl⟩
theorem rep_chr {K : PySem.W.Frag} {m : Own} {H : Hp} (x : Str) : RepWs K m H (x.cps.toList.map fun c => V.str ⟨#[c]⟩) (chrs x) := by
  unfold chrs
  generalize x.cps.toList = l
  induction l with
  | nil => exact .nil
  | cons c r ih => exact .cons (.str _) ih
theorem c_listS (hc : X.calm = true) : CallR X (.type "list") (rF X.K E bListS) := by
  intro pins s σ H xs us Q I r h
  obtain ⟨m, ws, S, rs, rv, hp⟩ := h
  unfold bListS at hp
  split at hp
  · split at hp
    · rename_i a ha
      cases rv with
      | cons h1 h2 =>
        cases h2
        cases h1
        cases r with
        | cons r1 r2 =>
          cases r2
          obtain ⟨t, rfl⟩ := r1
          refine call_list_str (I.ok.hd hc) a t (fun h' tk acc c' hk e' hi => ?_) (le_size ha)
          refine ⟨.ref s.heap.objs.size, upd H s.heap.objs.size (.lst (a.cps.toList.map fun c => V.str ⟨#[c]⟩)), I.laid hk (Nat.le_refl _) (show ObjOk X.prog X.w _ _ _ (.lst (a.cps.toList.map fun c => V.str ⟨#[c]⟩)) from ⟨?_, acc.toList, c', vals_chr hi, ?_⟩), rfl, ?_⟩
          · rw [List.length_map, Array.length_toList]; exact le_size ha
          · rw [Array.toArray_toList]; exact e'
          · have nl := I.hok.fresh (Nat.le_refl s.heap.objs.size)
            exact hp m _ (rs.allocS nl) (rs.alloc nl) _ (newLst rs nl (rep_chr a))
    · exact hp.elim
  · exact hp.elim
end
theorem bb_dict : bootBuiltins "dict" = some (.type "dict") := by decide +kernel
/-! ### dict(pairs), get -/
def prsOf : List W → Option (List (Str × W))
  | [] => some []
  | .tup [.str k, w] :: r => (prsOf r).map ((k, w) :: ·)
  | _ :: _ => none
def bDict (ws : List W) (S : Store) : Res W := match ws with
  | [x] => match listOf x S with
    | some l => match prsOf l with
      | some kvs => if (kvs.map (·.1)).Nodup then .ok (.mt S.length) (S ++ [.D kvs]) else .bad
      | none => .bad
    | none => .bad
  | _ => .bad
theorem rep_prs {K : PySem.W.Frag} {m : Own} {H : Hp} : ∀ {vs : List V} {ws : List W} {kvs : List (Str × W)}, RepWs K m H vs ws → prsOf ws = some kvs → ∃ (ps : List Addr) (qs : List (Str × V)), vs = ps.map V.ref ∧ Paired (fun p kv => SqT K H p [kV kv.1, kv.2]) ps (txtD qs) ∧ RepKs K m H qs kvs
  | _, _, kvs, .nil, h => by
    simp only [prsOf, Option.some.injEq] at h
    subst h
    exact ⟨[], [], rfl, .nil, .nil⟩
  | _, _, kvs, .cons (w := w) (ws := ws) hv hr, h => by
    unfold prsOf at h
    split at h
    · rename_i e
      cases e
    · rename_i k w' r e
      cases e
      obtain ⟨r', hr', rfl⟩ := Option.map_eq_some_iff.mp h
      obtain ⟨ps, qs, e1, e2, e3⟩ := rep_prs hr hr'
      cases hv with
      | tup q1 q2 =>
        cases q2 with
        | cons z1 z2 =>
          cases z2 with
          | cons z3 z4 =>
            cases z4
            cases z1
            exact ⟨_ :: ps, (k, _) :: qs, by rw [e1]; rfl, .cons q1.sq e2, .cons z3 e3⟩
    · cases h
theorem merge_nd : ∀ (more acc : List (Key × V)), ((acc ++ more).map (·.1)).Nodup → mergeK acc more = acc ++ more
  | [], acc, _ => by simp [mergeK]
  | (k, v) :: r, acc, h => by
    have hk : valV acc k = none := by
      rw [List.map_append, List.nodup_append] at h
      unfold valV
      rw [Option.map_eq_none_iff, List.find?_eq_none]
      intro x hx z
      simp only [decide_eq_true_eq] at z
      exact h.2.2 x.1 (List.mem_map_of_mem hx) k (by simp) z
    show mergeK (putK acc k v) r = _
    rw [putK_new v hk, merge_nd r (acc ++ [(k, v)]) (by simpa using h), List.append_assoc]
    rfl
theorem txtD_keys {K : PySem.W.Frag} {m : Own} {H : Hp} : ∀ {vs : List (Str × V)} {ws : List (Str × W)}, RepKs K m H vs ws → (txtD vs).map (·.1) = (ws.map (·.1)).map Sum.inr
  | _, _, .nil => rfl
  | _, _, .cons h r => by
    have := txtD_keys r
    simp only [txtD, List.map_cons, List.map_map] at this ⊢
    rw [this]
theorem nodup_inr : ∀ {l : List Str}, l.Nodup → (l.map (Sum.inr : Str → Key)).Nodup
  | [], _ => .nil
  | a :: l, h => by
    rw [List.nodup_cons] at h
    rw [List.map_cons, List.nodup_cons]
    refine ⟨fun z => ?_, nodup_inr h.2⟩
    obtain ⟨b, hb, e⟩ := List.mem_map.mp z
    cases e
    exact h.1 hb
section
variable {X : Cx} {E : Str → Hp → Prop} {o e e2 : Expr} {fo f g : EF} {cpos apos : Pos}
theorem c_dict (hc : X.calm = true) : CallR X (.type "dict") (rF X.K E bDict) := (call_dictP hc).weak fun xs H Q ⟨m, ws, S, rs, rv, hp⟩ => by
  unfold bDict at hp
  split at hp
  · split at hp
    · rename_i l e1
      split at hp
      · rename_i kvs e2
        split at hp
        · rename_i hn
          cases rv with
          | cons h1 h2 =>
            cases h2
            obtain ⟨a, vs, rfl, hl, hr⟩ := h1.list rs e1
            obtain ⟨ps, qs, rfl, q2, q3⟩ := rep_prs hr e2
            refine ⟨a, ps, txtD qs, rfl, .inl (.inl hl), q2, fun p np => ?_⟩
            have mk : mergeK [] (txtD qs) = txtD qs := merge_nd (txtD qs) [] (by rw [List.nil_append, txtD_keys q3]; exact nodup_inr hn)
            rw [mk]
            have st := rs.pushS (o := .dK (txtD qs)) np
            exact hp _ _ st (rs.pushO np ⟨rfl, qs, upd_same, q3.step st.g⟩) _ (.mt (l := []) (by rw [← rs.len]; simp [Own.push]))
        · exact hp.elim
      · exact hp.elim
    · exact hp.elim
  · exact hp.elim
theorem RepKs.look0 {K : PySem.W.Frag} {m : Own} {H : Hp} {s : Str} : ∀ {vs : List (Str × V)} {ws : List (Str × W)}, RepKs K m H vs ws → ws.lookup s = none → valV (txtD vs) (Sum.inr s) = none
  | _, _, .nil, h => rfl
  | _, _, .cons (s := s') (v := v) (w := w') hv hr, h => by
    by_cases e : s = s'
    · subst e
      simp [List.lookup_cons] at h
    · have b : (s == s') = false := by simpa using e
      simp only [List.lookup_cons, b] at h
      have ih := hr.look0 h
      have ne' : ¬ s' = s := fun z => e z.symm
      simpa [txtD, valV, ne'] using ih
def eGet (fo f g : EF) : EF := fun d S => (fo d S).bind fun x S1 => match x with
  | .mt k => match S1[k]? with
    | some (.D _) => (f d S1).bind fun y S2 => (g d S2).bind fun z S3 => match y with
      | .str s => match S3[k]? with
        | some (.D kvs) => .ok ((kvs.lookup s).getD z) S3
        | _ => .bad
      | _ => .bad
    | _ => .bad
  | _ => .bad
theorem ev_get (hu : X.A.units + 1 < cLine) (ho : PEv X E o fo) (he : PEv X E e f) (hf : PEv X E e2 g) (m : M2 X o "get" apos e e2 cpos := by exact ⟨rfl, rfl, rfl, rfl⟩) : PEv X E (.Call (.Attribute o "get" apos) [e, e2] [] cpos) (eGet fo f g) := by
  refine (pe_dget2 hu ho he hf m).weak fun σ H Q ⟨m, d, S, hE, hS, hP⟩ => ?_
  refine ⟨m, d, S, hE, hS, Post.bind hP fun x S1 m1 H1 s1 r1 h1 v rv => ?_⟩
  split at h1
  · rename_i k
    split at h1
    · rename_i kvs0 e0
      cases rv with
      | @mt _ a l em =>
        obtain ⟨a', l', em', hl, vs, hH, hr⟩ := r1.obj _ _ e0
        rw [em] at em'
        cases em'
        refine ⟨a, rfl, .inl ⟨_, .inl hH⟩, m1, d, S1, hE.step s1.g, r1, Post.bind h1 fun y S2 m2 H2 s2 r2 h2 u ru => ⟨m2, d, S2, hE.step (s1.trans s2).g, r2, Post.bind h2 fun z S3 m3 H3 s3 r3 h3 t rt => ?_⟩⟩
        split at h3
        · rename_i s
          split at h3
          · rename_i kvs e3
            cases ru
            obtain ⟨l3, em3⟩ := (s2.trans s3).g.pre _ _ _ em
            obtain ⟨a'', l'', em'', hl3, vs3, hH3, hr3⟩ := r3.obj _ _ e3
            rw [em3] at em''
            cases em''
            cases q : kvs.lookup s with
            | none =>
              rw [q] at h3
              exact ⟨none, .inl ⟨_, Sum.inr s, .inl hH3, rfl, (hr3.look0 q).symm⟩, h3.ok r3 _ rt⟩
            | some w =>
              rw [q] at h3
              obtain ⟨v', z1, z2, z3⟩ := hr3.look q
              exact ⟨some v', .inl ⟨_, Sum.inr s, .inl hH3, rfl, z1.symm⟩, h3.ok r3 _ z3⟩
          · exact h3.elim
        · exact h3.elim
    · exact h1.elim
  · exact h1.elim
end
end Iv
end
section
set_option maxHeartbeats 4000000
set_option maxRecDepth 100000
namespace G
open PySem L2 Iv
def b_is_between : SF := (sRet (eAnd (eUn (bIsi .int) (eVar 0)) (eAnd (eUn wNot (eUn (bIsi .bool) (eVar 0))) (eChain wLe wLe (eVar 1) (eVar 0) (eVar 2)))))
def F_is_between : List W → Store → Res W := runF 3 b_is_between
def b_does_close : SF := (sRet (eOp wLt (eOp wMul (eC (.int 2)) (eCall bMax (aCons (eVar 0) aNil))) (eCall bSum (aCons (eVar 0) aNil))))
def F_does_close : List W → Store → Res W := runF 1 b_does_close
def b_is_ring : SF := (sSeq (sIf (bOr (bNot (bVal (eUn (bIsi .tuple) (eVar 0)))) (bOr (bVal (eOp wNe (eCall bLen (aCons (eVar 0) aNil)) (eC (.int 4)))) (bNot (bVal (eCall bAll (aCons (eLc [1] (iSeq (eVar 0)) (gNm 1) bYes (eFn 3 F_is_between (aCons (eVar 1) (aCons (eC (.int 1)) (aCons (eC (.int 50)) aNil))))) aNil)))))) (sRet (eC (.bl false))) sNext) (sRet (eFn 1 F_does_close (aCons (eVar 0) aNil))))
def F_is_ring : List W → Store → Res W := runF 2 b_is_ring
def b_check_ring : SF := (sIf (bNot (bVal (eFn 1 F_is_ring (aCons (eVar 0) aNil)))) (sRaise "InvalidRing") sNext)
def F_check_ring : List W → Store → Res W := runF 1 b_check_ring
def b_check_number : SF := (sIf (bNot (bVal (eFn 3 F_is_between (aCons (eVar 0) (aCons (eVar 1) (aCons (eVar 2) aNil)))))) (sRaise "InvalidNumber") sNext)
def F_check_number : List W → Store → Res W := runF 3 b_check_number
def b_begun_at : SF := (sRet (eOp wAdd (eSl (eVar 0) (oSome (eVar 1)) oNo) (eSl (eVar 0) oNo (oSome (eVar 1)))))
def F_begun_at : List W → Store → Res W := runF 2 b_begun_at
def b_turned_1 : SF := (sSeq (sEx (eFn 3 F_check_number (aCons (eVar 1) (aCons (eC (.int 0)) (aCons (eC (.int 3)) aNil))))) (sRet (eFn 2 F_begun_at (aCons (eVar 0) (aCons (eVar 1) aNil)))))
def b_turned : SF := (sSeq (sEx (eFn 1 F_check_ring (aCons (eVar 0) aNil))) b_turned_1)
def F_turned : List W → Store → Res W := runF 2 b_turned
def b_mirrored : SF := (sSeq (sEx (eFn 1 F_check_ring (aCons (eVar 0) aNil))) (sRet (eUn wRev (eVar 0))))
def F_mirrored : List W → Store → Res W := runF 1 b_mirrored
def b_first_like : SF := (sRet (eCall bMin (aCons (eLc2 [1, 2] [2] (iSeq (eTup (aCons (eVar 0) (aCons (eUn wRev (eVar 0)) aNil)))) (gNm 1) bYes (iRg (aCons (eC (.int 4)) aNil)) (gNm 2) bYes (eFn 2 F_begun_at (aCons (eVar 1) (aCons (eVar 2) aNil)))) aNil)))
def F_first_like : List W → Store → Res W := runF 3 b_first_like
def b_least_like : SF := (sSeq (sEx (eFn 1 F_check_ring (aCons (eVar 0) aNil))) (sRet (eFn 1 F_first_like (aCons (eVar 0) aNil))))
def F_least_like : List W → Store → Res W := runF 1 b_least_like
def b_are_like_1 : SF := (sSeq (sEx (eFn 1 F_check_ring (aCons (eVar 1) aNil))) (sRet (eOp wEq (eFn 1 F_first_like (aCons (eVar 0) aNil)) (eFn 1 F_first_like (aCons (eVar 1) aNil)))))
def b_are_like : SF := (sSeq (sEx (eFn 1 F_check_ring (aCons (eVar 0) aNil))) b_are_like_1)
def F_are_like : List W → Store → Res W := runF 2 b_are_like
def b_kind_of_1 : SF := (sSeq (sIf (bVal (eOp wEq (eVar 2) (eC (.int 0)))) (sRet (eC (.str "flat"))) sNext) (sRet (eIf (bVal (eOp wLt (eVar 2) (eC (.int 0)))) (eC (.str "free")) (eC (.str "bound")))))
def b_kind_of_2 : SF := (sSeq (sAsg (eOp wSub (eOp wSub (eOp wAdd (eOp wIx (eVar 1) (eC (.int 0))) (eOp wIx (eVar 1) (eC (.int 3)))) (eOp wIx (eVar 1) (eC (.int 1)))) (eOp wIx (eVar 1) (eC (.int 2)))) (gNm 2)) b_kind_of_1)
def b_kind_of : SF := (sSeq (sAsg (eCall bSorted (aCons (eVar 0) aNil)) (gNm 1)) b_kind_of_2)
def F_kind_of : List W → Store → Res W := runF 3 b_kind_of
def b_kind : SF := (sSeq (sEx (eFn 1 F_check_ring (aCons (eVar 0) aNil))) (sRet (eFn 1 F_kind_of (aCons (eVar 0) aNil))))
def F_kind : List W → Store → Res W := runF 1 b_kind
def b_law_town : SF := (sRet (eOp wAddN (eLst (aCons (eC (.int 0)) aNil)) (eCall bList (aCons (eVar 0) aNil))))
def F_law_town : List W → Store → Res W := runN 1 b_law_town
def b_law_draw_1 : SF := (sSeq (sAsg (eOp wFdiv (eVar 4) (eVar 2)) (gIx (eVar 1) (eOp wAdd (eC (.int 1)) (eVar 3)))) (sRet (eOp wMod (eVar 4) (eVar 2))))
def b_law_draw_2 : SF := (sSeq (sAsg (eOp wMod (eOp wPow (eVar 5) (eC (.int 5))) (eC (.int 4294967279))) (gNm 5)) (sRet (eOp wMod (eOp wFdiv (eOp wMod (eOp wAdd (eOp wMul (eOp wFdiv (eVar 5) (eC (.int 64))) (eC (.int 69621))) (eVar 5)) (eC (.int 4294967231))) (eC (.int 8))) (eVar 2))))
def b_law_draw_3 : SF := (sSeq (sAsg (eOp wMod (eOp wAdd (eOp wIx (eVar 0) (eVar 3)) (eOp wMul (eC (.int 104729)) (eOp wIx (eVar 1) (eC (.int 0))))) (eC (.int 4294967291))) (gNm 5)) b_law_draw_2)
def b_law_draw_4 : SF := (sSeq (sIf (bAnd (bVal (eOp wGe (eOp wIx (eVar 0) (eVar 3)) (eOp wPow (eC (.int 10)) (eC (.int 18))))) (bVal (eOp wGt (eVar 4) (eC (.int 0))))) b_law_draw_1 sNext) b_law_draw_3)
def b_law_draw_5 : SF := (sSeq (sAsg (eOp wIx (eVar 1) (eOp wAdd (eC (.int 1)) (eVar 3))) (gNm 4)) b_law_draw_4)
def b_law_draw_6 : SF := (sSeq (sAsg (eOp wMod (eOp wIx (eVar 1) (eC (.int 0))) (eCall bLen (aCons (eVar 0) aNil))) (gNm 3)) b_law_draw_5)
def b_law_draw_7 : SF := (sSeq (sIf (bVal (eOp wEq (eVar 0) (eLst aNil))) (sRet (eOp wMod (eOp wFdiv (eOp wMul (eOp wMul (eOp wIx (eVar 1) (eC (.int 0))) (eOp wIx (eVar 1) (eC (.int 0)))) (eC (.int 7))) (eC (.int 3))) (eVar 2))) sNext) b_law_draw_6)
def b_law_draw : SF := (sSeq (sAsg (eOp wAdd (eOp wIx (eVar 1) (eC (.int 0))) (eC (.int 1))) (gIx (eVar 1) (eC (.int 0)))) b_law_draw_7)
def F_law_draw : List W → Store → Res W := runF 6 b_law_draw
def b_law_closes : SF := (sRet (eOp wEq (eCall bLen (aCons (eLc [1] (iSeq (eVar 0)) (gNm 1) (bVal (eOp wGe (eVar 1) (eOp wSub (eCall bSum (aCons (eVar 0) aNil)) (eVar 1)))) (eVar 1)) aNil)) (eC (.int 0))))
def F_law_closes : List W → Store → Res W := runF 2 b_law_closes
def b_law_ring_1 : SF := (sSeq (sAsg (eOp wIx (eCall bSorted (aCons (eVar 7) aNil)) (eC (.int 2))) (gNm 8)) (sAsg (eCall bTuple (aCons (eLc [11] (iSeq (eVar 7)) (gNm 11) bYes (eCall bMin (aCons (eVar 11) (aCons (eVar 8) aNil)))) aNil)) (gNm 7)))
def b_law_ring_2 : SF := (sSeq (sAsg (eFn 3 F_law_draw (aCons (eVar 0) (aCons (eVar 1) (aCons (eC (.int 4)) aNil)))) (gNm 9)) (sRet (eOp wAdd (eSl (eVar 7) (oSome (eVar 9)) oNo) (eSl (eVar 7) oNo (oSome (eVar 9))))))
def b_law_ring_3 : SF := (sSeq (sIf (bNot (bVal (eFn 1 F_law_closes (aCons (eVar 7) aNil)))) b_law_ring_1 sNext) b_law_ring_2)
def b_law_ring_4 : SF := (sSeq (sAsg (eCall bTuple (aCons (eLc [11] (iSeq (eVar 7)) (gNm 11) bYes (eCall bMin (aCons (eC (.int 50)) (aCons (eVar 11) aNil)))) aNil)) (gNm 7)) b_law_ring_3)
def b_law_ring_5 : SF := (sSeq (sIf (bVal (eOp wEq (eVar 6) (eC (.int 0)))) (sAsg (eTup (aCons (eVar 3) (aCons (eVar 4) (aCons (eVar 3) (aCons (eVar 4) aNil))))) (gNm 7)) (sIf (bVal (eOp wEq (eVar 6) (eC (.int 1)))) (sAsg (eTup (aCons (eVar 3) (aCons (eVar 3) (aCons (eVar 4) (aCons (eVar 4) aNil))))) (gNm 7)) (sIf (bVal (eOp wEq (eVar 6) (eC (.int 2)))) (sAsg (eTup (aCons (eVar 3) (aCons (eVar 4) (aCons (eVar 5) (aCons (eCall bMax (aCons (eC (.int 1)) (aCons (eOp wSub (eOp wAdd (eVar 3) (eVar 4)) (eVar 5)) aNil))) aNil))))) (gNm 7)) (sAsg (eTup (aCons (eVar 3) (aCons (eVar 4) (aCons (eVar 5) (aCons (eOp wAdd (eC (.int 1)) (eFn 3 F_law_draw (aCons (eVar 0) (aCons (eVar 1) (aCons (eVar 2) aNil))))) aNil))))) (gNm 7))))) b_law_ring_4)
def b_law_ring_6 : SF := (sSeq (sAsg (eFn 3 F_law_draw (aCons (eVar 0) (aCons (eVar 1) (aCons (eC (.int 6)) aNil)))) (gNm 6)) b_law_ring_5)
def b_law_ring : SF := (sSeq (sAsg (eLc [10] (iRg (aCons (eC (.int 3)) aNil)) (gNm 10) bYes (eOp wAdd (eC (.int 1)) (eFn 3 F_law_draw (aCons (eVar 0) (aCons (eVar 1) (aCons (eVar 2) aNil)))))) (gUl 3 (gsCons (gNm 3) (gsCons (gNm 4) (gsCons (gNm 5) gsNil))))) b_law_ring_6)
def F_law_ring : List W → Store → Res W := runF 12 b_law_ring
def b_law_kind_1 : SF := (sSeq (sAsg (eOp wSub (eOp wSub (eOp wAdd (eOp wIx (eVar 1) (eC (.int 1))) (eOp wIx (eVar 1) (eC (.int 2)))) (eOp wIx (eVar 1) (eC (.int 0)))) (eOp wIx (eVar 1) (eC (.int 3)))) (gNm 2)) (sRet (eOp wIx (eTup (aCons (eC (.str "bound")) (aCons (eC (.str "flat")) (aCons (eC (.str "free")) aNil)))) (eOp wSub (eOp wAdd (eC (.int 1)) (eCall bInt (aCons (eOp wGt (eVar 2) (eC (.int 0))) aNil))) (eCall bInt (aCons (eOp wLt (eVar 2) (eC (.int 0))) aNil))))))
def b_law_kind : SF := (sSeq (sAsg (eCall bSorted (aCons (eVar 0) aNil)) (gNm 1)) b_law_kind_1)
def F_law_kind : List W → Store → Res W := runF 3 b_law_kind
def b_law_likes_1 : SF := (sSeq (sFor (iSeq (eTup (aCons (eVar 0) (aCons (eTup (aCons (eOp wIx (eVar 0) (eC (.int 3))) (aCons (eOp wIx (eVar 0) (eC (.int 2))) (aCons (eOp wIx (eVar 0) (eC (.int 1))) (aCons (eOp wIx (eVar 0) (eC (.int 0))) aNil))))) aNil)))) (gNm 2) (sAsg (eOp wAdd (eVar 1) (eLc [3] (iRg (aCons (eC (.int 4)) aNil)) (gNm 3) bYes (eOp wAdd (eSl (eVar 2) (oSome (eVar 3)) oNo) (eSl (eVar 2) oNo (oSome (eVar 3)))))) (gNm 1))) (sRet (eVar 1)))
def b_law_likes : SF := (sSeq (sAsg (eLst aNil) (gNm 1)) b_law_likes_1)
def F_law_likes : List W → Store → Res W := runF 4 b_law_likes
def b_law_k02_1 : SF := (sSeq (sAsg (eTup (aCons (eOp wIx (eVar 5) (eC (.int 1))) (aCons (eOp wIx (eVar 5) (eC (.int 0))) (aCons (eOp wIx (eVar 5) (eC (.int 2))) (aCons (eOp wIx (eVar 5) (eC (.int 3))) aNil))))) (gNm 9)) (sIf (bOr (bVal (eOp wIsNot (eFn 1 F_is_ring (aCons (eVar 9) aNil)) (eC (.bl true)))) (bVal (eOp wNe (eFn 1 F_kind (aCons (eVar 9) aNil)) (eFn 1 F_kind (aCons (eVar 5) aNil))))) (sRet (eC (.bl false))) sNext))
def b_law_k02_2 : SF := (sSeq (sIf (bVal (eOp wNe (eFn 1 F_kind (aCons (eVar 5) aNil)) (eFn 1 F_law_kind (aCons (eVar 5) aNil)))) (sRet (eC (.bl false))) sNext) b_law_k02_1)
def b_law_k02_3 : SF := (sSeq (sFor (iRg (aCons (eC (.int 4)) aNil)) (gNm 8) (sIf (bVal (eOp wNe (eFn 2 F_turned (aCons (eVar 5) (aCons (eVar 8) aNil))) (eCall bTuple (aCons (eLc [11] (iRg (aCons (eC (.int 4)) aNil)) (gNm 11) bYes (eOp wIx (eVar 5) (eOp wMod (eOp wAdd (eVar 11) (eVar 8)) (eC (.int 4))))) aNil)))) (sRet (eC (.bl false))) sNext)) b_law_k02_2)
def b_law_k02_4 : SF := (sSeq (sIf (bOr (bVal (eOp wNe (eFn 1 F_mirrored (aCons (eVar 5) aNil)) (eTup (aCons (eOp wIx (eVar 5) (eC (.int 3))) (aCons (eOp wIx (eVar 5) (eC (.int 2))) (aCons (eOp wIx (eVar 5) (eC (.int 1))) (aCons (eOp wIx (eVar 5) (eC (.int 0))) aNil))))))) (bVal (eOp wNe (eFn 1 F_mirrored (aCons (eFn 1 F_mirrored (aCons (eVar 5) aNil)) aNil)) (eVar 5)))) (sRet (eC (.bl false))) sNext) b_law_k02_3)
def b_law_k02_5 : SF := (sSeq (sIf (bVal (eOp wNe (eLc [10] (iSeq (eVar 7)) (gNm 10) (bOr (bVal (eOp wNe (eFn 1 F_least_like (aCons (eVar 10) aNil)) (eCall bMin (aCons (eVar 7) aNil)))) (bNot (bVal (eFn 2 F_are_like (aCons (eVar 10) (aCons (eVar 5) aNil)))))) (eVar 10)) (eLst aNil))) (sRet (eC (.bl false))) sNext) b_law_k02_4)
def b_law_k02_6 : SF := (sSeq (sIf (bOr (bVal (eOp wNe (eFn 2 F_are_like (aCons (eVar 5) (aCons (eVar 6) aNil))) (eOp wIn (eVar 6) (eVar 7)))) (bVal (eOp wNe (eFn 2 F_are_like (aCons (eVar 6) (aCons (eVar 5) aNil))) (eOp wIn (eVar 6) (eVar 7))))) (sRet (eC (.bl false))) sNext) b_law_k02_5)
def b_law_k02_7 : SF := (sSeq (sIf (bOr (bVal (eOp wNe (eFn 1 F_least_like (aCons (eVar 5) aNil)) (eCall bMin (aCons (eVar 7) aNil)))) (bVal (eOp wIsNot (eFn 1 F_is_ring (aCons (eFn 1 F_least_like (aCons (eVar 5) aNil)) aNil)) (eC (.bl true))))) (sRet (eC (.bl false))) sNext) b_law_k02_6)
def b_law_k02_8 : SF := (sSeq (sAsg (eFn 1 F_law_likes (aCons (eVar 5) aNil)) (gNm 7)) b_law_k02_7)
def b_law_k02_9 : SF := (sSeq (sFor (iSeq (eTup (aCons (eTup (aCons (eVar 2) (aCons (eVar 3) aNil))) (aCons (eTup (aCons (eVar 4) (aCons (eVar 3) aNil))) (aCons (eTup (aCons (eVar 2) (aCons (eOp wAdd (eSl (eVar 2) (oSome (eC (.int 1))) oNo) (eSl (eVar 2) oNo (oSome (eC (.int 1))))) aNil))) (aCons (eTup (aCons (eVar 4) (aCons (eUn wRev (eVar 4)) aNil))) aNil)))))) (gTu 2 (gsCons (gNm 5) (gsCons (gNm 6) gsNil))) b_law_k02_8) (sRet (eAnd (eOp wEq (eFn 1 F_kind (aCons (eTup (aCons (eC (.int 1)) (aCons (eC (.int 1)) (aCons (eC (.int 1)) (aCons (eC (.int 2)) aNil))))) aNil)) (eC (.str "bound"))) (eAnd (eOp wEq (eFn 1 F_kind (aCons (eTup (aCons (eC (.int 5)) (aCons (eC (.int 5)) (aCons (eC (.int 5)) (aCons (eC (.int 5)) aNil))))) aNil)) (eC (.str "flat"))) (eOp wEq (eFn 1 F_kind (aCons (eTup (aCons (eC (.int 2)) (aCons (eC (.int 5)) (aCons (eC (.int 8)) (aCons (eC (.int 5)) aNil))))) aNil)) (eC (.str "flat")))))))
def b_law_k02_10 : SF := (sSeq (sAsg (eFn 3 F_law_ring (aCons (eVar 0) (aCons (eVar 1) (aCons (eC (.int 3)) aNil)))) (gNm 4)) b_law_k02_9)
def b_law_k02_11 : SF := (sSeq (sPr 2 3 (aCons (eFn 3 F_law_ring (aCons (eVar 0) (aCons (eVar 1) (aCons (eC (.int 50)) aNil)))) (aCons (eFn 3 F_law_ring (aCons (eVar 0) (aCons (eVar 1) (aCons (eC (.int 3)) aNil)))) aNil))) b_law_k02_10)
def b_law_k02 : SF := (sSeq (sAsg (eFn 1 F_law_town (aCons (eVar 0) aNil)) (gNm 1)) b_law_k02_11)
def F_law_k02 : List W → Store → Res W := runF 12 b_law_k02
def b_divisor : SF := (sSeq (sWhile 100000 (bVal (eOp wNe (eVar 1) (eC (.int 0)))) (sPr 0 1 (aCons (eVar 1) (aCons (eOp wMod (eVar 0) (eVar 1)) aNil)))) (sRet (eCall bAbs (aCons (eVar 0) aNil))))
def F_divisor : List W → Store → Res W := runF 2 b_divisor
def b_fraction : SF := (sSeq (sAsg (eFn 2 F_divisor (aCons (eVar 0) (aCons (eVar 1) aNil))) (gNm 2)) (sRet (eTup (aCons (eOp wFdiv (eVar 0) (eVar 2)) (aCons (eOp wFdiv (eVar 1) (eVar 2)) aNil)))))
def F_fraction : List W → Store → Res W := runF 3 b_fraction
def b_bars_at : SF := (sRet (eTup (aCons (eOp wIx (eVar 0) (eVar 1)) (aCons (eOp wIx (eVar 0) (eOp wMod (eOp wAdd (eVar 1) (eC (.int 1))) (eC (.int 4)))) aNil))))
def F_bars_at : List W → Store → Res W := runF 2 b_bars_at
def b_found_bounds_1 : SF := (sSeq (sAsg (eFn 2 F_bars_at (aCons (eVar 0) (aCons (eOp wAdd (eVar 1) (eC (.int 2))) aNil))) (gTu 2 (gsCons (gNm 4) (gsCons (gNm 5) gsNil)))) (sRet (eTup (aCons (eCall bMax (aCons (eCall bAbs (aCons (eOp wSub (eVar 2) (eVar 3)) aNil)) (aCons (eCall bAbs (aCons (eOp wSub (eVar 4) (eVar 5)) aNil)) aNil))) (aCons (eCall bMin (aCons (eOp wAdd (eVar 2) (eVar 3)) (aCons (eOp wAdd (eVar 4) (eVar 5)) aNil))) aNil)))))
def b_found_bounds : SF := (sSeq (sAsg (eFn 2 F_bars_at (aCons (eVar 0) (aCons (eVar 1) aNil))) (gTu 2 (gsCons (gNm 2) (gsCons (gNm 3) gsNil)))) b_found_bounds_1)
def F_found_bounds : List W → Store → Res W := runF 6 b_found_bounds
def b_bounds_1 : SF := (sSeq (sEx (eFn 3 F_check_number (aCons (eVar 1) (aCons (eC (.int 0)) (aCons (eC (.int 1)) aNil))))) (sRet (eFn 2 F_found_bounds (aCons (eVar 0) (aCons (eVar 1) aNil)))))
def b_bounds : SF := (sSeq (sEx (eFn 1 F_check_ring (aCons (eVar 0) aNil))) b_bounds_1)
def F_bounds : List W → Store → Res W := runF 2 b_bounds
def b_cosine : SF := (sSeq (sAsg (eFn 2 F_bars_at (aCons (eVar 0) (aCons (eVar 1) aNil))) (gTu 2 (gsCons (gNm 3) (gsCons (gNm 4) gsNil)))) (sRet (eFn 2 F_fraction (aCons (eOp wSub (eOp wAdd (eOp wMul (eVar 3) (eVar 3)) (eOp wMul (eVar 4) (eVar 4))) (eVar 2)) (aCons (eOp wMul (eOp wMul (eC (.int 2)) (eVar 3)) (eVar 4)) aNil)))))
def F_cosine : List W → Store → Res W := runF 5 b_cosine
def b_cosines_of : SF := (sSeq (sAsg (eFn 2 F_found_bounds (aCons (eVar 0) (aCons (eOp wMod (eVar 1) (eC (.int 2))) aNil))) (gTu 2 (gsCons (gNm 2) (gsCons (gNm 3) gsNil)))) (sRet (eTup (aCons (eFn 3 F_cosine (aCons (eVar 0) (aCons (eVar 1) (aCons (eOp wMul (eVar 2) (eVar 2)) aNil)))) (aCons (eFn 3 F_cosine (aCons (eVar 0) (aCons (eVar 1) (aCons (eOp wMul (eVar 3) (eVar 3)) aNil)))) aNil)))))
def F_cosines_of : List W → Store → Res W := runF 4 b_cosines_of
def b_cosines_1 : SF := (sSeq (sEx (eFn 3 F_check_number (aCons (eVar 1) (aCons (eC (.int 0)) (aCons (eC (.int 3)) aNil))))) (sRet (eFn 2 F_cosines_of (aCons (eVar 0) (aCons (eVar 1) aNil)))))
def b_cosines : SF := (sSeq (sEx (eFn 1 F_check_ring (aCons (eVar 0) aNil))) b_cosines_1)
def F_cosines : List W → Store → Res W := runF 2 b_cosines
def b_goes_round_1 : SF := (sSeq (sAsg (eFn 2 F_bars_at (aCons (eVar 0) (aCons (eOp wMod (eOp wAdd (eVar 1) (eC (.int 2))) (eC (.int 4))) aNil))) (gTu 2 (gsCons (gNm 4) (gsCons (gNm 5) gsNil)))) (sRet (eAnd (eOp wGe (eCall bAbs (aCons (eOp wSub (eVar 2) (eVar 3)) aNil)) (eCall bAbs (aCons (eOp wSub (eVar 4) (eVar 5)) aNil))) (eOp wLe (eOp wAdd (eVar 2) (eVar 3)) (eOp wAdd (eVar 4) (eVar 5))))))
def b_goes_round : SF := (sSeq (sAsg (eFn 2 F_bars_at (aCons (eVar 0) (aCons (eVar 1) aNil))) (gTu 2 (gsCons (gNm 2) (gsCons (gNm 3) gsNil)))) b_goes_round_1)
def F_goes_round : List W → Store → Res W := runF 6 b_goes_round
def b_turns_round_1 : SF := (sSeq (sEx (eFn 3 F_check_number (aCons (eVar 1) (aCons (eC (.int 0)) (aCons (eC (.int 3)) aNil))))) (sRet (eFn 2 F_goes_round (aCons (eVar 0) (aCons (eVar 1) aNil)))))
def b_turns_round : SF := (sSeq (sEx (eFn 1 F_check_ring (aCons (eVar 0) aNil))) b_turns_round_1)
def F_turns_round : List W → Store → Res W := runF 2 b_turns_round
def b_found_round : SF := (sRet (eLc [1] (iRg (aCons (eC (.int 4)) aNil)) (gNm 1) (bVal (eFn 2 F_goes_round (aCons (eVar 0) (aCons (eVar 1) aNil)))) (eVar 1)))
def F_found_round : List W → Store → Res W := runF 2 b_found_round
def b_round_joints : SF := (sSeq (sEx (eFn 1 F_check_ring (aCons (eVar 0) aNil))) (sRet (eCall bTuple (aCons (eFn 1 F_found_round (aCons (eVar 0) aNil)) aNil))))
def F_round_joints : List W → Store → Res W := runF 1 b_round_joints
def b_round_neighbours_1 : SF := (sSeq (sAsg (eLst (aCons (eTup (aCons (eOp wMod (eOp wAdd (eVar 1) (eC (.int 1))) (eC (.int 4))) (aCons (eVar 1) aNil))) (aCons (eTup (aCons (eOp wMod (eOp wAdd (eVar 1) (eC (.int 3))) (eC (.int 4))) (aCons (eOp wMod (eOp wAdd (eVar 1) (eC (.int 3))) (eC (.int 4))) aNil))) aNil))) (gNm 2)) (sRet (eCall bTuple (aCons (eCall bSorted (aCons (eLc [3, 4] (iSeq (eVar 2)) (gTu 2 (gsCons (gNm 3) (gsCons (gNm 4) gsNil))) (bVal (eFn 2 F_goes_round (aCons (eVar 0) (aCons (eVar 4) aNil)))) (eVar 3)) aNil)) aNil))))
def b_round_neighbours_2 : SF := (sSeq (sEx (eFn 3 F_check_number (aCons (eVar 1) (aCons (eC (.int 0)) (aCons (eC (.int 3)) aNil))))) b_round_neighbours_1)
def b_round_neighbours : SF := (sSeq (sEx (eFn 1 F_check_ring (aCons (eVar 0) aNil))) b_round_neighbours_2)
def F_round_neighbours : List W → Store → Res W := runF 5 b_round_neighbours
def b_law_pick : SF := (sRet (eOp wIx (eVar 2) (eFn 3 F_law_draw (aCons (eVar 0) (aCons (eVar 1) (aCons (eCall bLen (aCons (eVar 2) aNil)) aNil))))))
def F_law_pick : List W → Store → Res W := runF 3 b_law_pick
def b_law_frac_1 : SF := (sSeq (sWhile 100000 (bVal (eOp wGt (eVar 3) (eC (.int 0)))) (sPr 2 3 (aCons (eVar 3) (aCons (eOp wMod (eVar 2) (eVar 3)) aNil)))) (sRet (eTup (aCons (eOp wFdiv (eVar 0) (eVar 2)) (aCons (eOp wFdiv (eVar 1) (eVar 2)) aNil)))))
def b_law_frac : SF := (sSeq (sPr 2 3 (aCons (eVar 1) (aCons (eCall bAbs (aCons (eVar 0) aNil)) aNil))) b_law_frac_1)
def F_law_frac : List W → Store → Res W := runF 4 b_law_frac
def b_law_pair : SF := (sRet (eTup (aCons (eOp wIx (eVar 0) (eVar 1)) (aCons (eOp wIx (eOp wAdd (eVar 0) (eVar 0)) (eOp wAdd (eVar 1) (eC (.int 1)))) aNil))))
def F_law_pair : List W → Store → Res W := runF 2 b_law_pair
def b_law_bounds_1 : SF := (sSeq (sAsg (eFn 2 F_law_pair (aCons (eVar 0) (aCons (eVar 4) aNil))) (gTu 2 (gsCons (gNm 5) (gsCons (gNm 6) gsNil)))) (sPr 2 3 (aCons (eCall bMax (aCons (eVar 2) (aCons (eCall bAbs (aCons (eOp wSub (eVar 5) (eVar 6)) aNil)) aNil))) (aCons (eCall bMin (aCons (eVar 3) (aCons (eOp wAdd (eVar 5) (eVar 6)) aNil))) aNil))))
def b_law_bounds_2 : SF := (sSeq (sFor (iSeq (eTup (aCons (eVar 1) (aCons (eOp wAdd (eVar 1) (eC (.int 2))) aNil)))) (gNm 4) b_law_bounds_1) (sRet (eTup (aCons (eVar 2) (aCons (eVar 3) aNil)))))
def b_law_bounds : SF := (sSeq (sAsg (eTup (aCons (eC (.int 0)) (aCons (eC (.int 1000)) aNil))) (gTu 2 (gsCons (gNm 2) (gsCons (gNm 3) gsNil)))) b_law_bounds_2)
def F_law_bounds : List W → Store → Res W := runF 7 b_law_bounds
def b_law_cosine : SF := (sSeq (sAsg (eFn 2 F_law_pair (aCons (eVar 0) (aCons (eVar 1) aNil))) (gTu 2 (gsCons (gNm 3) (gsCons (gNm 4) gsNil)))) (sRet (eFn 2 F_law_frac (aCons (eOp wSub (eOp wAdd (eOp wMul (eVar 3) (eVar 3)) (eOp wMul (eVar 4) (eVar 4))) (eVar 2)) (aCons (eOp wMul (eOp wMul (eC (.int 2)) (eVar 3)) (eVar 4)) aNil)))))
def F_law_cosine : List W → Store → Res W := runF 5 b_law_cosine
def b_law_round_1 : SF := (sSeq (sAsg (eFn 2 F_law_bounds (aCons (eVar 0) (aCons (eOp wMod (eVar 2) (eC (.int 2))) aNil))) (gTu 2 (gsCons (gNm 5) (gsCons (gNm 6) gsNil)))) (sIf (bAnd (bVal (eChain wLe wLe (eVar 5) (eCall bAbs (aCons (eOp wSub (eVar 3) (eVar 4)) aNil)) (eVar 6))) (bVal (eChain wLe wLe (eVar 5) (eOp wAdd (eVar 3) (eVar 4)) (eVar 6)))) (sEx (eLm mAppend (eVar 1) (aCons (eVar 2) aNil))) sNext))
def b_law_round_2 : SF := (sSeq (sAsg (eFn 2 F_law_pair (aCons (eVar 0) (aCons (eVar 2) aNil))) (gTu 2 (gsCons (gNm 3) (gsCons (gNm 4) gsNil)))) b_law_round_1)
def b_law_round_3 : SF := (sSeq (sFor (iRg (aCons (eC (.int 4)) aNil)) (gNm 2) b_law_round_2) (sRet (eVar 1)))
def b_law_round : SF := (sSeq (sAsg (eNew aNil) (gNm 1)) b_law_round_3)
def F_law_round : List W → Store → Res W := runF 7 b_law_round
def b_law_k10_1 : SF := (sSeq (sIf (bOr (bVal (eOp wLt (eOp wMul (eOp wIx (eOp wIx (eVar 8) (eC (.int 0))) (eC (.int 0))) (eOp wIx (eOp wIx (eVar 8) (eC (.int 1))) (eC (.int 1)))) (eOp wMul (eOp wIx (eOp wIx (eVar 8) (eC (.int 1))) (eC (.int 0))) (eOp wIx (eOp wIx (eVar 8) (eC (.int 0))) (eC (.int 1)))))) (bVal (eOp wGt (eCall bAbs (aCons (eOp wIx (eOp wIx (eVar 8) (eC (.int 0))) (eC (.int 0))) aNil)) (eOp wIx (eOp wIx (eVar 8) (eC (.int 0))) (eC (.int 1)))))) (sRet (eC (.bl false))) sNext) (sIf (bOr (bVal (eOp wNe (eFn 2 F_turns_round (aCons (eVar 2) (aCons (eVar 5) aNil))) (eOp wIn (eVar 5) (eVar 4)))) (bVal (eOp wNe (eOp wEq (eVar 8) (eTup (aCons (eTup (aCons (eC (.int 1)) (aCons (eC (.int 1)) aNil))) (aCons (eTup (aCons (eUn wNeg (eC (.int 1))) (aCons (eC (.int 1)) aNil))) aNil)))) (eOp wIn (eVar 5) (eVar 4))))) (sRet (eC (.bl false))) sNext))
def b_law_k10_2 : SF := (sSeq (sIf (bVal (eOp wNe (eVar 8) (eTup (aCons (eFn 3 F_law_cosine (aCons (eVar 2) (aCons (eVar 5) (aCons (eOp wMul (eVar 6) (eVar 6)) aNil)))) (aCons (eFn 3 F_law_cosine (aCons (eVar 2) (aCons (eVar 5) (aCons (eOp wMul (eVar 7) (eVar 7)) aNil)))) aNil))))) (sRet (eC (.bl false))) sNext) b_law_k10_1)
def b_law_k10_3 : SF := (sSeq (sAsg (eFn 2 F_cosines (aCons (eVar 2) (aCons (eVar 5) aNil))) (gNm 8)) b_law_k10_2)
def b_law_k10_4 : SF := (sSeq (sAsg (eFn 2 F_law_bounds (aCons (eVar 2) (aCons (eOp wMod (eVar 5) (eC (.int 2))) aNil))) (gTu 2 (gsCons (gNm 6) (gsCons (gNm 7) gsNil)))) b_law_k10_3)
def b_law_k10_5 : SF := (sSeq (sIf (bVal (eOp wIn (eOp wMod (eOp wAdd (eVar 9) (eC (.int 3))) (eC (.int 4))) (eVar 4))) (sEx (eLm mAppend (eVar 10) (aCons (eOp wMod (eOp wAdd (eVar 9) (eC (.int 3))) (eC (.int 4))) aNil))) sNext) (sIf (bVal (eOp wNe (eFn 2 F_round_neighbours (aCons (eVar 2) (aCons (eVar 9) aNil))) (eCall bTuple (aCons (eCall bSorted (aCons (eVar 10) aNil)) aNil)))) (sRet (eC (.bl false))) sNext))
def b_law_k10_6 : SF := (sSeq (sIf (bVal (eOp wIn (eVar 9) (eVar 4))) (sEx (eLm mAppend (eVar 10) (aCons (eOp wMod (eOp wAdd (eVar 9) (eC (.int 1))) (eC (.int 4))) aNil))) sNext) b_law_k10_5)
def b_law_k10_7 : SF := (sSeq (sAsg (eNew aNil) (gNm 10)) b_law_k10_6)
def b_law_k10_8 : SF := (sSeq (sIf (bAnd (bVal (eOp wEq (eFn 1 F_law_kind (aCons (eVar 2) aNil)) (eC (.str "bound")))) (bVal (eOp wNe (eVar 4) (eLst aNil)))) (sRet (eC (.bl false))) sNext) (sRet (eOr (eOp wNe (eFn 1 F_law_kind (aCons (eVar 2) aNil)) (eC (.str "flat"))) (eOp wGe (eCall bLen (aCons (eVar 4) aNil)) (eC (.int 2))))))
def b_law_k10_9 : SF := (sSeq (sIf (bAnd (bVal (eOp wEq (eFn 1 F_law_kind (aCons (eVar 2) aNil)) (eC (.str "free")))) (bVal (eOp wNe (eVar 4) (eCall bSorted (aCons (eLst (aCons (eVar 11) (aCons (eOp wMod (eOp wAdd (eVar 11) (eC (.int 3))) (eC (.int 4))) aNil))) aNil))))) (sRet (eC (.bl false))) sNext) b_law_k10_8)
def b_law_k10_10 : SF := (sSeq (sAsg (eTix (eVar 2) (aCons (eCall bMin (aCons (eVar 2) aNil)) aNil)) (gNm 11)) b_law_k10_9)
def b_law_k10_11 : SF := (sSeq (sFor (iRg (aCons (eC (.int 4)) aNil)) (gNm 9) b_law_k10_7) b_law_k10_10)
def b_law_k10_12 : SF := (sSeq (sIf (bVal (eOp wNe (eFn 1 F_round_joints (aCons (eVar 2) aNil)) (eCall bTuple (aCons (eVar 4) aNil)))) (sRet (eC (.bl false))) sNext) b_law_k10_11)
def b_law_k10_13 : SF := (sSeq (sFor (iRg (aCons (eC (.int 4)) aNil)) (gNm 5) b_law_k10_4) b_law_k10_12)
def b_law_k10_14 : SF := (sSeq (sAsg (eFn 1 F_law_round (aCons (eVar 2) aNil)) (gNm 4)) b_law_k10_13)
def b_law_k10_15 : SF := (sSeq (sFor (iSeq (eTup (aCons (eC (.int 0)) (aCons (eC (.int 1)) aNil)))) (gNm 3) (sIf (bVal (eOp wNe (eFn 2 F_bounds (aCons (eVar 2) (aCons (eVar 3) aNil))) (eFn 2 F_law_bounds (aCons (eVar 2) (aCons (eVar 3) aNil))))) (sRet (eC (.bl false))) sNext)) b_law_k10_14)
def b_law_k10_16 : SF := (sSeq (sAsg (eFn 3 F_law_ring (aCons (eVar 0) (aCons (eVar 1) (aCons (eFn 3 F_law_pick (aCons (eVar 0) (aCons (eVar 1) (aCons (eLst (aCons (eC (.int 4)) (aCons (eC (.int 12)) (aCons (eC (.int 50)) aNil)))) aNil)))) aNil)))) (gNm 2)) b_law_k10_15)
def b_law_k10 : SF := (sSeq (sAsg (eFn 1 F_law_town (aCons (eVar 0) aNil)) (gNm 1)) b_law_k10_16)
def F_law_k10 : List W → Store → Res W := runF 12 b_law_k10
noncomputable def b_law_k11_1 : SF := shut (sSeq (sFor (iSeq (eVar 12)) (gNm 14) (sIf (bVal (eOp wNe (eFn 2 F_round_neighbours (aCons (eVar 9) (aCons (eVar 14) aNil))) (eTup (aCons (eVar 11) aNil)))) (sRet (eC (.bl false))) sNext)) (sIf (bOr (bVal (eOp wNe (eFn 2 F_round_neighbours (aCons (eVar 9) (aCons (eVar 13) aNil))) (eTup aNil))) (bVal (eOp wNe (eFn 1 F_round_joints (aCons (eVar 9) aNil)) (eCall bTuple (aCons (eCall bSorted (aCons (eLst (aCons (eVar 11) (aCons (eOp wMod (eOp wAdd (eVar 11) (eC (.int 3))) (eC (.int 4))) aNil))) aNil)) aNil))))) (sRet (eC (.bl false))) sNext))
noncomputable def b_law_k11_2 : SF := shut (sSeq (sAsg (eOp wAdd (eVar 15) (eC (.int 1))) (gNm 15)) (sIf (bOr (bVal (eOp wNotIn (eVar 14) (eFn 2 F_round_neighbours (aCons (eVar 9) (aCons (eVar 16) aNil))))) (bVal (eOp wEq (eOp wMod (eOp wSub (eVar 14) (eVar 16)) (eC (.int 2))) (eC (.int 0))))) (sRet (eC (.bl false))) sNext))
noncomputable def b_law_k11_3 : SF := shut (sSeq (sFor (iRg (aCons (eC (.int 4)) aNil)) (gNm 14) (sFor (iSeq (eFn 2 F_round_neighbours (aCons (eVar 9) (aCons (eVar 14) aNil)))) (gNm 16) b_law_k11_2)) (sRet (eOp wEq (eVar 15) (eOp wMul (eC (.int 2)) (eCall bLen (aCons (eFn 1 F_round_joints (aCons (eVar 9) aNil)) aNil))))))
noncomputable def b_law_k11_4 : SF := shut (sSeq (sAsg (eC (.int 0)) (gNm 15)) b_law_k11_3)
noncomputable def b_law_k11_5 : SF := shut (sSeq (sIf (bVal (eOp wEq (eVar 10) (eC (.str "free")))) b_law_k11_1 sNext) b_law_k11_4)
noncomputable def b_law_k11_6 : SF := shut (sSeq (sIf (bVal (eOp wNe (eFn 2 F_round_neighbours (aCons (eVar 9) (aCons (eVar 11) aNil))) (eCall bTuple (aCons (eCall bSorted (aCons (eVar 12) aNil)) aNil)))) (sRet (eC (.bl false))) sNext) b_law_k11_5)
noncomputable def b_law_k11_7 : SF := shut (sSeq (sIf (bVal (eOp wEq (eVar 10) (eC (.str "bound")))) (sRet (eAnd (eOp wEq (eLc [14] (iRg (aCons (eC (.int 4)) aNil)) (gNm 14) (bVal (eOp wNe (eFn 2 F_round_neighbours (aCons (eVar 9) (aCons (eVar 14) aNil))) (eTup aNil))) (eVar 14)) (eLst aNil)) (eOp wEq (eFn 1 F_round_joints (aCons (eVar 9) aNil)) (eTup aNil)))) sNext) b_law_k11_6)
noncomputable def b_law_k11_8 : SF := shut (sSeq (sPr 12 13 (aCons (eTup (aCons (eOp wMod (eOp wAdd (eVar 11) (eC (.int 1))) (eC (.int 4))) (aCons (eOp wMod (eOp wAdd (eVar 11) (eC (.int 3))) (eC (.int 4))) aNil))) (aCons (eOp wMod (eOp wAdd (eVar 11) (eC (.int 2))) (eC (.int 4))) aNil))) b_law_k11_7)
noncomputable def b_law_k11_9 : SF := shut (sSeq (sIf (bVal (eOp wNe (eVar 10) (eFn 1 F_law_kind (aCons (eVar 9) aNil)))) (sRet (eC (.bl false))) sNext) b_law_k11_8)
noncomputable def b_law_k11_10 : SF := shut (sSeq (sPr 10 11 (aCons (eFn 1 F_kind (aCons (eVar 9) aNil)) (aCons (eTix (eVar 9) (aCons (eCall bMin (aCons (eVar 9) aNil)) aNil)) aNil))) b_law_k11_9)
noncomputable def b_law_k11_11 : SF := shut (sSeq (sIf (bOr (bNot (bVal (eFn 1 F_law_closes (aCons (eVar 9) aNil)))) (bVal (eOp wLt (eVar 5) (eC (.int 0))))) (sRet (eUn wNot (eFn 1 F_is_ring (aCons (eVar 9) aNil)))) sNext) b_law_k11_10)
noncomputable def b_law_k11_12 : SF := shut (sSeq (sAsg (eCall bTuple (aCons (eLc [17] (iRg (aCons (eC (.int 4)) aNil)) (gNm 17) bYes (eLm mPopAt (eVar 8) (aCons (eFn 3 F_law_draw (aCons (eVar 0) (aCons (eVar 1) (aCons (eCall bLen (aCons (eVar 8) aNil)) aNil)))) aNil))) aNil)) (gNm 9)) b_law_k11_11)
noncomputable def b_law_k11_13 : SF := shut (sSeq (sAsg (eNew (aCons (eVar 2) (aCons (eVar 3) (aCons (eVar 4) (aCons (eVar 7) aNil))))) (gNm 8)) b_law_k11_12)
noncomputable def b_law_k11_14 : SF := shut (sSeq (sAsg (eCall bMin3 (aCons (eC (.int 50)) (aCons (eCall bMax (aCons (eVar 4) (aCons (eVar 7) aNil))) (aCons (eOp wSub (eOp wAdd (eOp wAdd (eVar 2) (eVar 3)) (eVar 4)) (eC (.int 1))) aNil)))) (gNm 7)) b_law_k11_13)
noncomputable def b_law_k11_15 : SF := shut (sSeq (sAsg (eOp wIx (eTup (aCons (eOp wSub (eOp wSub (eOp wSub (eOp wAdd (eVar 3) (eVar 4)) (eVar 2)) (eC (.int 1))) (eFn 3 F_law_draw (aCons (eVar 0) (aCons (eVar 1) (aCons (eC (.int 3)) aNil))))) (aCons (eOp wSub (eOp wAdd (eVar 3) (eVar 4)) (eVar 2)) (aCons (eOp wAdd (eOp wAdd (eOp wSub (eOp wAdd (eVar 3) (eVar 4)) (eVar 2)) (eC (.int 1))) (eFn 3 F_law_draw (aCons (eVar 0) (aCons (eVar 1) (aCons (eC (.int 3)) aNil))))) aNil)))) (eVar 6)) (gNm 7)) b_law_k11_14)
noncomputable def b_law_k11_16 : SF := shut (sSeq (sAsg (eFn 3 F_law_draw (aCons (eVar 0) (aCons (eVar 1) (aCons (eC (.int 3)) aNil)))) (gNm 6)) b_law_k11_15)
noncomputable def b_law_k11_17 : SF := shut (sSeq (sAsg (eOp wSub (eVar 4) (eVar 3)) (gNm 5)) b_law_k11_16)
noncomputable def b_law_k11_18 : SF := shut (sSeq (sAsg (eOp wAdd (eVar 3) (eFn 3 F_law_draw (aCons (eVar 0) (aCons (eVar 1) (aCons (eC (.int 12)) aNil))))) (gNm 4)) b_law_k11_17)
noncomputable def b_law_k11_19 : SF := shut (sSeq (sAsg (eOp wAdd (eOp wAdd (eVar 2) (eC (.int 1))) (eFn 3 F_law_draw (aCons (eVar 0) (aCons (eVar 1) (aCons (eC (.int 12)) aNil))))) (gNm 3)) b_law_k11_18)
noncomputable def b_law_k11_20 : SF := shut (sSeq (sAsg (eOp wAdd (eC (.int 1)) (eFn 3 F_law_draw (aCons (eVar 0) (aCons (eVar 1) (aCons (eC (.int 9)) aNil))))) (gNm 2)) b_law_k11_19)
noncomputable def b_law_k11 : SF := shut (sSeq (sAsg (eFn 1 F_law_town (aCons (eVar 0) aNil)) (gNm 1)) b_law_k11_20)
noncomputable def F_law_k11 : List W → Store → Res W := runF 18 b_law_k11
def b_check_three_1 : SF := (sSeq (sEx (eFn 3 F_check_number (aCons (eVar 1) (aCons (eC (.int 0)) (aCons (eC (.int 1)) aNil))))) (sEx (eFn 3 F_check_number (aCons (eVar 2) (aCons (eC (.int 0)) (aCons (eC (.int 10000)) aNil))))))
def b_check_three : SF := (sSeq (sEx (eFn 1 F_check_ring (aCons (eVar 0) aNil))) b_check_three_1)
def F_check_three : List W → Store → Res W := runF 3 b_check_three
def b_can_be : SF := (sSeq (sAsg (eFn 2 F_found_bounds (aCons (eVar 0) (aCons (eVar 1) aNil))) (gTu 2 (gsCons (gNm 3) (gsCons (gNm 4) gsNil)))) (sRet (eChain wLe wLe (eOp wMul (eVar 3) (eVar 3)) (eVar 2) (eOp wMul (eVar 4) (eVar 4)))))
def F_can_be : List W → Store → Res W := runF 5 b_can_be
def b_has_position : SF := (sSeq (sEx (eFn 3 F_check_three (aCons (eVar 0) (aCons (eVar 1) (aCons (eVar 2) aNil))))) (sRet (eFn 3 F_can_be (aCons (eVar 0) (aCons (eVar 1) (aCons (eVar 2) aNil))))))
def F_has_position : List W → Store → Res W := runF 3 b_has_position
def b_check_position_1 : SF := (sSeq (sIf (bNot (bVal (eFn 3 F_can_be (aCons (eVar 0) (aCons (eVar 1) (aCons (eVar 2) aNil)))))) (sRaise "NoPosition") sNext) (sIf (bVal (eOp wEq (eVar 2) (eC (.int 0)))) (sRaise "ZeroDiagonal") sNext))
def b_check_position : SF := (sSeq (sEx (eFn 3 F_check_three (aCons (eVar 0) (aCons (eVar 1) (aCons (eVar 2) aNil))))) b_check_position_1)
def F_check_position : List W → Store → Res W := runF 3 b_check_position
def b_opened : SF := (sSeq (sEx (eFn 3 F_check_position (aCons (eVar 0) (aCons (eVar 1) (aCons (eVar 2) aNil))))) (sRet (eTup (aCons (eFn 3 F_cosine (aCons (eVar 0) (aCons (eVar 1) (aCons (eVar 2) aNil)))) (aCons (eFn 3 F_cosine (aCons (eVar 0) (aCons (eOp wAdd (eVar 1) (eC (.int 2))) (aCons (eVar 2) aNil)))) aNil)))))
def F_opened : List W → Store → Res W := runF 3 b_opened
def b_count_positions_1 : SF := (sSeq (sAsg (eLc [4] (iSeq (eTup (aCons (eVar 1) (aCons (eOp wAdd (eVar 1) (eC (.int 2))) aNil)))) (gNm 4) bYes (eFn 3 F_cosine (aCons (eVar 0) (aCons (eVar 4) (aCons (eVar 2) aNil))))) (gNm 3)) (sRet (eIf (bVal (eCall bAny (aCons (eLc [5, 6] (iSeq (eVar 3)) (gTu 2 (gsCons (gNm 5) (gsCons (gNm 6) gsNil))) bYes (eOp wEq (eCall bAbs (aCons (eVar 5) aNil)) (eVar 6))) aNil))) (eC (.int 1)) (eC (.int 2)))))
def b_count_positions : SF := (sSeq (sEx (eFn 3 F_check_position (aCons (eVar 0) (aCons (eVar 1) (aCons (eVar 2) aNil))))) b_count_positions_1)
def F_count_positions : List W → Store → Res W := runF 7 b_count_positions
def b_other_squares_1 : SF := (sSeq (sAsg (eOp wAdd (eOp wAdd (eOp wMul (eOp wSub (eVar 5) (eVar 6)) (eOp wSub (eVar 5) (eVar 6))) (eVar 7)) (eVar 8)) (gNm 9)) (sRet (eTup (aCons (eFn 2 F_fraction (aCons (eOp wMul (eC (.int 2)) (eVar 9)) (aCons (eOp wMul (eC (.int 4)) (eVar 2)) aNil))) (aCons (eFn 2 F_fraction (aCons (eOp wSub (eOp wMul (eVar 9) (eVar 9)) (eOp wMul (eOp wMul (eC (.int 4)) (eVar 7)) (eVar 8))) (aCons (eOp wMul (eOp wMul (eC (.int 16)) (eVar 2)) (eVar 2)) aNil))) aNil)))))
def b_other_squares_2 : SF := (sSeq (sAsg (eOp wSub (eOp wMul (eOp wMul (eOp wMul (eC (.int 4)) (eVar 2)) (eOp wIx (eVar 4) (eC (.int 1)))) (eOp wIx (eVar 4) (eC (.int 1)))) (eOp wMul (eVar 6) (eVar 6))) (gNm 8)) b_other_squares_1)
def b_other_squares_3 : SF := (sSeq (sAsg (eOp wSub (eOp wMul (eOp wMul (eOp wMul (eC (.int 4)) (eVar 2)) (eOp wIx (eVar 3) (eC (.int 0)))) (eOp wIx (eVar 3) (eC (.int 0)))) (eOp wMul (eVar 5) (eVar 5))) (gNm 7)) b_other_squares_2)
def b_other_squares_4 : SF := (sSeq (sAsg (eOp wAdd (eOp wSub (eOp wMul (eOp wIx (eVar 4) (eC (.int 1))) (eOp wIx (eVar 4) (eC (.int 1)))) (eOp wMul (eOp wIx (eVar 4) (eC (.int 0))) (eOp wIx (eVar 4) (eC (.int 0))))) (eVar 2)) (gNm 6)) b_other_squares_3)
def b_other_squares_5 : SF := (sSeq (sAsg (eOp wAdd (eOp wSub (eOp wMul (eOp wIx (eVar 3) (eC (.int 0))) (eOp wIx (eVar 3) (eC (.int 0)))) (eOp wMul (eOp wIx (eVar 3) (eC (.int 1))) (eOp wIx (eVar 3) (eC (.int 1))))) (eVar 2)) (gNm 5)) b_other_squares_4)
def b_other_squares_6 : SF := (sSeq (sPr 3 4 (aCons (eFn 2 F_bars_at (aCons (eVar 0) (aCons (eVar 1) aNil))) (aCons (eFn 2 F_bars_at (aCons (eVar 0) (aCons (eOp wAdd (eVar 1) (eC (.int 2))) aNil))) aNil))) b_other_squares_5)
def b_other_squares : SF := (sSeq (sEx (eFn 3 F_check_position (aCons (eVar 0) (aCons (eVar 1) (aCons (eVar 2) aNil))))) b_other_squares_6)
def F_other_squares : List W → Store → Res W := runF 10 b_other_squares
def b_law_legs_1 : SF := (sSeq (sAsg (eFn 3 F_law_pick (aCons (eVar 0) (aCons (eVar 1) (aCons (eVar 2) aNil)))) (gTu 3 (gsCons (gNm 3) (gsCons (gNm 4) (gsCons (gNm 5) gsNil))))) (sRet (eTup (aCons (eFn 3 F_law_pick (aCons (eVar 0) (aCons (eVar 1) (aCons (eLst (aCons (eVar 3) (aCons (eUn wNeg (eVar 3)) aNil))) aNil)))) (aCons (eFn 3 F_law_pick (aCons (eVar 0) (aCons (eVar 1) (aCons (eLst (aCons (eVar 4) (aCons (eUn wNeg (eVar 4)) aNil))) aNil)))) (aCons (eVar 5) aNil))))))
def b_law_legs : SF := (sSeq (sAsg (eLst (aCons (eTup (aCons (eC (.int 3)) (aCons (eC (.int 4)) (aCons (eC (.int 5)) aNil)))) (aCons (eTup (aCons (eC (.int 4)) (aCons (eC (.int 3)) (aCons (eC (.int 5)) aNil)))) (aCons (eTup (aCons (eC (.int 5)) (aCons (eC (.int 12)) (aCons (eC (.int 13)) aNil)))) (aCons (eTup (aCons (eC (.int 8)) (aCons (eC (.int 6)) (aCons (eC (.int 10)) aNil)))) (aCons (eTup (aCons (eC (.int 12)) (aCons (eC (.int 5)) (aCons (eC (.int 13)) aNil)))) (aCons (eTup (aCons (eC (.int 0)) (aCons (eC (.int 7)) (aCons (eC (.int 7)) aNil)))) (aCons (eTup (aCons (eC (.int 9)) (aCons (eC (.int 0)) (aCons (eC (.int 9)) aNil)))) (aCons (eTup (aCons (eC (.int 8)) (aCons (eC (.int 15)) (aCons (eC (.int 17)) aNil)))) (aCons (eTup (aCons (eC (.int 15)) (aCons (eC (.int 8)) (aCons (eC (.int 17)) aNil)))) aNil)))))))))) (gNm 2)) b_law_legs_1)
def F_law_legs : List W → Store → Res W := runF 6 b_law_legs
def b_law_angle_1 : SF := (sSeq (sAsg (eFn 2 F_law_pair (aCons (eVar 0) (aCons (eVar 2) aNil))) (gTu 2 (gsCons (gNm 7) (gsCons (gNm 8) gsNil)))) (sRet (eFn 2 F_law_frac (aCons (eVar 6) (aCons (eOp wMul (eVar 7) (eVar 8)) aNil)))))
def b_law_angle_2 : SF := (sSeq (sAsg (eOp wAdd (eOp wMul (eOp wSub (eOp wIx (eVar 3) (eC (.int 0))) (eOp wIx (eVar 4) (eC (.int 0)))) (eOp wSub (eOp wIx (eVar 5) (eC (.int 0))) (eOp wIx (eVar 4) (eC (.int 0))))) (eOp wMul (eOp wSub (eOp wIx (eVar 3) (eC (.int 1))) (eOp wIx (eVar 4) (eC (.int 1)))) (eOp wSub (eOp wIx (eVar 5) (eC (.int 1))) (eOp wIx (eVar 4) (eC (.int 1)))))) (gNm 6)) b_law_angle_1)
def b_law_angle : SF := (sSeq (sAsg (eLc [9] (iRg (aCons (eC (.int 3)) aNil)) (gNm 9) bYes (eOp wIx (eVar 1) (eOp wMod (eOp wAdd (eVar 2) (eVar 9)) (eC (.int 4))))) (gUl 3 (gsCons (gNm 3) (gsCons (gNm 4) (gsCons (gNm 5) gsNil))))) b_law_angle_2)
def F_law_angle : List W → Store → Res W := runF 10 b_law_angle
def b_law_drawn_1 : SF := (sSeq (sWhile 100000 (bVal (eOp wLe (eOp wMul (eOp wAdd (eVar 7) (eC (.int 1))) (eOp wAdd (eVar 7) (eC (.int 1)))) (eVar 6))) (sAsg (eOp wAdd (eVar 7) (eC (.int 1))) (gNm 7))) (sRet (eTup (aCons (eVar 5) (aCons (eTup (aCons (eOp wIx (eVar 2) (eC (.int 2))) (aCons (eOp wIx (eVar 3) (eC (.int 2))) (aCons (eOp wIx (eVar 4) (eC (.int 2))) (aCons (eIf (bVal (eOp wEq (eOp wMul (eVar 7) (eVar 7)) (eVar 6))) (eVar 7) (eC (.int 0))) aNil))))) aNil)))))
def b_law_drawn_2 : SF := (sSeq (sAsg (eC (.int 0)) (gNm 7)) b_law_drawn_1)
def b_law_drawn_3 : SF := (sSeq (sAsg (eOp wAdd (eOp wMul (eOp wIx (eOp wIx (eVar 5) (eC (.int 3))) (eC (.int 0))) (eOp wIx (eOp wIx (eVar 5) (eC (.int 3))) (eC (.int 0)))) (eOp wMul (eOp wIx (eOp wIx (eVar 5) (eC (.int 3))) (eC (.int 1))) (eOp wIx (eOp wIx (eVar 5) (eC (.int 3))) (eC (.int 1))))) (gNm 6)) b_law_drawn_2)
def b_law_drawn_4 : SF := (sSeq (sEx (eLm mAppend (eVar 5) (aCons (eTup (aCons (eOp wAdd (eOp wIx (eOp wIx (eVar 5) (eC (.int 2))) (eC (.int 0))) (eOp wIx (eVar 4) (eC (.int 0)))) (aCons (eOp wAdd (eOp wIx (eOp wIx (eVar 5) (eC (.int 2))) (eC (.int 1))) (eOp wIx (eVar 4) (eC (.int 1)))) aNil))) aNil))) b_law_drawn_3)
def b_law_drawn_5 : SF := (sSeq (sEx (eLm mAppend (eVar 5) (aCons (eTup (aCons (eOp wAdd (eOp wIx (eVar 2) (eC (.int 0))) (eOp wIx (eVar 3) (eC (.int 0)))) (aCons (eOp wAdd (eOp wIx (eVar 2) (eC (.int 1))) (eOp wIx (eVar 3) (eC (.int 1)))) aNil))) aNil))) b_law_drawn_4)
def b_law_drawn_6 : SF := (sSeq (sAsg (eNew (aCons (eTup (aCons (eC (.int 0)) (aCons (eC (.int 0)) aNil))) (aCons (eTup (aCons (eOp wIx (eVar 2) (eC (.int 0))) (aCons (eOp wIx (eVar 2) (eC (.int 1))) aNil))) aNil))) (gNm 5)) b_law_drawn_5)
def b_law_drawn_7 : SF := (sSeq (sAsg (eFn 3 F_law_pick (aCons (eVar 0) (aCons (eVar 1) (aCons (eLst (aCons (eVar 4) (aCons (eTup (aCons (eUn wNeg (eOp wIx (eVar 2) (eC (.int 0)))) (aCons (eOp wIx (eVar 2) (eC (.int 1))) (aCons (eOp wIx (eVar 2) (eC (.int 2))) aNil)))) (aCons (eTup (aCons (eOp wIx (eVar 2) (eC (.int 0))) (aCons (eUn wNeg (eOp wIx (eVar 2) (eC (.int 1)))) (aCons (eOp wIx (eVar 2) (eC (.int 2))) aNil)))) aNil)))) aNil)))) (gNm 4)) b_law_drawn_6)
def b_law_drawn_8 : SF := (sSeq (sAsg (eFn 3 F_law_pick (aCons (eVar 0) (aCons (eVar 1) (aCons (eLst (aCons (eVar 4) (aCons (eTup (aCons (eUn wNeg (eOp wIx (eVar 2) (eC (.int 0)))) (aCons (eUn wNeg (eOp wIx (eVar 2) (eC (.int 1)))) (aCons (eOp wIx (eVar 2) (eC (.int 2))) aNil)))) (aCons (eTup (aCons (eUn wNeg (eOp wIx (eVar 3) (eC (.int 0)))) (aCons (eOp wIx (eVar 3) (eC (.int 1))) (aCons (eOp wIx (eVar 3) (eC (.int 2))) aNil)))) aNil)))) aNil)))) (gNm 4)) b_law_drawn_7)
def b_law_drawn : SF := (sSeq (sPr3 2 3 4 (aCons (eFn 2 F_law_legs (aCons (eVar 0) (aCons (eVar 1) aNil))) (aCons (eFn 2 F_law_legs (aCons (eVar 0) (aCons (eVar 1) aNil))) (aCons (eFn 2 F_law_legs (aCons (eVar 0) (aCons (eVar 1) aNil))) aNil)))) b_law_drawn_8)
def F_law_drawn : List W → Store → Res W := runF 8 b_law_drawn
def b_law_k21_1 : SF := (sSeq (sAsg (eFn 2 F_law_drawn (aCons (eVar 0) (aCons (eVar 1) aNil))) (gTu 2 (gsCons (gNm 2) (gsCons (gNm 3) gsNil)))) (sAsg (eOp wAdd (eVar 4) (eC (.int 1))) (gNm 4)))
def b_law_k21_2 : SF := (sSeq (sAsg (eCall bTuple (aCons (eLc [16] (iSeq (eTup (aCons (eC (.int 0)) (aCons (eC (.int 1)) aNil)))) (gNm 16) bYes (eFn 3 F_law_angle (aCons (eVar 3) (aCons (eVar 2) (aCons (eOp wAdd (eVar 8) (eOp wMul (eC (.int 2)) (eVar 16))) aNil))))) aNil)) (gNm 15)) (sIf (bOr (bVal (eOp wNe (eVar 13) (eVar 14))) (bVal (eOp wNe (eFn 3 F_opened (aCons (eVar 3) (aCons (eVar 8) (aCons (eVar 9) aNil)))) (eVar 15)))) (sRet (eC (.bl false))) sNext))
def b_law_k21_3 : SF := (sSeq (sAsg (eFn 2 F_law_frac (aCons (eOp wAdd (eOp wMul (eOp wMul (eVar 10) (eVar 10)) (eOp wIx (eVar 12) (eC (.int 1)))) (eOp wIx (eVar 12) (eC (.int 0)))) (aCons (eOp wIx (eVar 12) (eC (.int 1))) aNil))) (gNm 14)) b_law_k21_2)
def b_law_k21_4 : SF := (sSeq (sAsg (eFn 2 F_law_frac (aCons (eOp wMul (eVar 10) (eOp wIx (eVar 11) (eC (.int 0)))) (aCons (eOp wIx (eVar 11) (eC (.int 1))) aNil))) (gNm 13)) b_law_k21_3)
def b_law_k21_5 : SF := (sSeq (sAsg (eFn 3 F_other_squares (aCons (eVar 3) (aCons (eVar 8) (aCons (eVar 9) aNil)))) (gTu 2 (gsCons (gNm 11) (gsCons (gNm 12) gsNil)))) b_law_k21_4)
def b_law_k21_6 : SF := (sSeq (sIf (bOr (bVal (eOp wGt (eVar 9) (eC (.int 10000)))) (bNot (bVal (eFn 3 F_has_position (aCons (eVar 3) (aCons (eVar 8) (aCons (eVar 9) aNil))))))) (sRet (eOp wGt (eVar 9) (eC (.int 10000)))) sNext) (sIf (bVal (eOp wGt (eVar 9) (eC (.int 0)))) b_law_k21_5 sNext))
def b_law_k21_7 : SF := (sSeq (sPr 9 10 (aCons (eOp wIx (eVar 5) (eVar 8)) (aCons (eOp wIx (eVar 5) (eOp wSub (eC (.int 1)) (eVar 8))) aNil))) b_law_k21_6)
def b_law_k21_8 : SF := (sSeq (sFor (iSeq (eTup (aCons (eC (.int 0)) (aCons (eC (.int 1)) aNil)))) (gNm 8) b_law_k21_7) (sRet (eAnd (eOp wEq (eFn 3 F_count_positions (aCons (eTup (aCons (eC (.int 5)) (aCons (eC (.int 5)) (aCons (eC (.int 5)) (aCons (eC (.int 5)) aNil))))) (aCons (eC (.int 0)) (aCons (eC (.int 36)) aNil)))) (eC (.int 2))) (eOp wEq (eFn 3 F_count_positions (aCons (eTup (aCons (eC (.int 3)) (aCons (eC (.int 4)) (aCons (eC (.int 6)) (aCons (eC (.int 5)) aNil))))) (aCons (eC (.int 0)) (aCons (eC (.int 49)) aNil)))) (eC (.int 1))))))
def b_law_k21_9 : SF := (sSeq (sFor (iSeq (eTup (aCons (eTup (aCons (eOp wIx (eVar 2) (eC (.int 0))) (aCons (eOp wIx (eVar 2) (eC (.int 2))) aNil))) (aCons (eTup (aCons (eOp wIx (eVar 2) (eC (.int 1))) (aCons (eOp wIx (eVar 2) (eC (.int 3))) aNil))) aNil)))) (gTu 2 (gsCons (gNm 6) (gsCons (gNm 7) gsNil))) (sEx (eLm mAppend (eVar 5) (aCons (eOp wAdd (eOp wMul (eOp wSub (eOp wIx (eVar 6) (eC (.int 0))) (eOp wIx (eVar 7) (eC (.int 0)))) (eOp wSub (eOp wIx (eVar 6) (eC (.int 0))) (eOp wIx (eVar 7) (eC (.int 0))))) (eOp wMul (eOp wSub (eOp wIx (eVar 6) (eC (.int 1))) (eOp wIx (eVar 7) (eC (.int 1)))) (eOp wSub (eOp wIx (eVar 6) (eC (.int 1))) (eOp wIx (eVar 7) (eC (.int 1)))))) aNil)))) b_law_k21_8)
def b_law_k21_10 : SF := (sSeq (sAsg (eNew aNil) (gNm 5)) b_law_k21_9)
def b_law_k21_11 : SF := (sSeq (sIf (bNot (bVal (eFn 1 F_is_ring (aCons (eVar 3) aNil)))) (sRet (eOp wEq (eFn 3 F_count_positions (aCons (eTup (aCons (eC (.int 5)) (aCons (eC (.int 5)) (aCons (eC (.int 5)) (aCons (eC (.int 5)) aNil))))) (aCons (eC (.int 0)) (aCons (eC (.int 36)) aNil)))) (eC (.int 2)))) sNext) b_law_k21_10)
def b_law_k21_12 : SF := (sSeq (sWhile 100000 (bAnd (bNot (bVal (eFn 1 F_is_ring (aCons (eVar 3) aNil)))) (bVal (eOp wLt (eVar 4) (eC (.int 12))))) b_law_k21_1) b_law_k21_11)
def b_law_k21_13 : SF := (sSeq (sAsg (eC (.int 0)) (gNm 4)) b_law_k21_12)
def b_law_k21_14 : SF := (sSeq (sAsg (eFn 2 F_law_drawn (aCons (eVar 0) (aCons (eVar 1) aNil))) (gTu 2 (gsCons (gNm 2) (gsCons (gNm 3) gsNil)))) b_law_k21_13)
def b_law_k21 : SF := (sSeq (sAsg (eFn 1 F_law_town (aCons (eVar 0) aNil)) (gNm 1)) b_law_k21_14)
def F_law_k21 : List W → Store → Res W := runF 17 b_law_k21
def b_can_mirror : SF := (sSeq (sEx (eFn 1 F_check_ring (aCons (eVar 0) aNil))) (sRet (eOp wNe (eFn 1 F_kind_of (aCons (eVar 0) aNil)) (eC (.str "free")))))
def F_can_mirror : List W → Store → Res W := runF 1 b_can_mirror
def b_can_lie_flat : SF := (sSeq (sEx (eFn 1 F_check_ring (aCons (eVar 0) aNil))) (sRet (eOp wEq (eFn 1 F_kind_of (aCons (eVar 0) aNil)) (eC (.str "flat")))))
def F_can_lie_flat : List W → Store → Res W := runF 1 b_can_lie_flat
def b_families : SF := (sSeq (sEx (eFn 1 F_check_ring (aCons (eVar 0) aNil))) (sRet (eIf (bVal (eOp wEq (eFn 1 F_kind_of (aCons (eVar 0) aNil)) (eC (.str "free")))) (eC (.int 2)) (eC (.int 1)))))
def F_families : List W → Store → Res W := runF 1 b_families
def b_law_met_1 : SF := (sSeq (sAsg (eFn 2 F_law_pair (aCons (eVar 0) (aCons (eVar 4) aNil))) (gTu 2 (gsCons (gNm 5) (gsCons (gNm 6) gsNil)))) (sIf (bVal (eOp wIn (eVar 3) (eTup (aCons (eCall bAbs (aCons (eOp wSub (eVar 5) (eVar 6)) aNil)) (aCons (eOp wAdd (eVar 5) (eVar 6)) aNil))))) (sEx (eLm mAppend (eVar 2) (aCons (eVar 4) aNil))) sNext))
def b_law_met_2 : SF := (sSeq (sEx (eLm mAppend (eVar 7) (aCons (eVar 12) aNil))) (sEx (eLm mAppend (eVar 8) (aCons (eVar 12) aNil))))
def b_law_met_3 : SF := (sSeq (sIf (bVal (eOp wIn (eOp wAdd (eVar 1) (eC (.int 2))) (eVar 2))) (sEx (eLm mAppend (eVar 11) (aCons (eTup (aCons (eVar 9) (aCons (eOp wSub (eC (.int 1)) (eVar 10)) aNil))) aNil))) sNext) (sForM 100000 (eVar 11) (gNm 12) (sIf (bVal (eOp wNotIn (eVar 12) (eVar 7))) b_law_met_2 sNext)))
def b_law_met_4 : SF := (sSeq (sIf (bVal (eOp wIn (eVar 1) (eVar 2))) (sEx (eLm mAppend (eVar 11) (aCons (eTup (aCons (eOp wSub (eC (.int 1)) (eVar 9)) (aCons (eVar 10) aNil))) aNil))) sNext) b_law_met_3)
def b_law_met_5 : SF := (sSeq (sAsg (eNew aNil) (gNm 11)) b_law_met_4)
def b_law_met_6 : SF := (sSeq (sAsg (eLm mPop (eVar 8) aNil) (gTu 2 (gsCons (gNm 9) (gsCons (gNm 10) gsNil)))) b_law_met_5)
def b_law_met_7 : SF := (sSeq (sWhile 100000 (bVal (eOp wNe (eVar 8) (eLst aNil))) b_law_met_6) (sRet (eVar 7)))
def b_law_met_8 : SF := (sSeq (sPr 7 8 (aCons (eNew (aCons (eTup (aCons (eC (.int 0)) (aCons (eC (.int 0)) aNil))) aNil)) (aCons (eNew (aCons (eTup (aCons (eC (.int 0)) (aCons (eC (.int 0)) aNil))) aNil)) aNil))) b_law_met_7)
def b_law_met_9 : SF := (sSeq (sFor (iSeq (eFn 2 F_law_bounds (aCons (eVar 0) (aCons (eVar 1) aNil)))) (gNm 3) (sFor (iSeq (eTup (aCons (eVar 1) (aCons (eOp wAdd (eVar 1) (eC (.int 2))) aNil)))) (gNm 4) b_law_met_1)) b_law_met_8)
def b_law_met : SF := (sSeq (sAsg (eNew aNil) (gNm 2)) b_law_met_9)
def F_law_met : List W → Store → Res W := runF 13 b_law_met
noncomputable def b_law_k30_1 : SF := shut (sSeq (sAsg (eFn 2 F_law_met (aCons (eVar 2) (aCons (eVar 3) aNil))) (gNm 4)) (sIf (bOr (bVal (eOp wNe (eFn 1 F_families (aCons (eVar 2) aNil)) (eOp wFdiv (eC (.int 4)) (eCall bLen (aCons (eVar 4) aNil))))) (bVal (eOp wNe (eFn 1 F_can_mirror (aCons (eVar 2) aNil)) (eOp wIn (eTup (aCons (eC (.int 1)) (aCons (eC (.int 1)) aNil))) (eVar 4))))) (sRet (eC (.bl false))) sNext))
noncomputable def b_law_k30_2 : SF := shut (sSeq (sAsg (eLst (aCons (eC (.int 1)) (aCons (eOp wSub (eC (.int 1)) (eOp wMul (eC (.int 2)) (eOp wMod (eVar 6) (eC (.int 2))))) (aCons (eOp wSub (eC (.int 1)) (eOp wMul (eC (.int 2)) (eOp wMod (eOp wFdiv (eVar 6) (eC (.int 2))) (eC (.int 2))))) (aCons (eOp wSub (eC (.int 1)) (eOp wMul (eC (.int 2)) (eOp wFdiv (eVar 6) (eC (.int 4))))) aNil))))) (gNm 7)) (sEx (eLm mAppend (eVar 5) (aCons (eCall bSum (aCons (eLc [9, 10] (iZp (aCons (eVar 7) (aCons (eVar 2) aNil))) (gTu 2 (gsCons (gNm 9) (gsCons (gNm 10) gsNil))) bYes (eOp wMul (eVar 9) (eVar 10))) aNil)) aNil))))
noncomputable def b_law_k30_3 : SF := shut (sSeq (sAsg (eFn 3 F_law_draw (aCons (eVar 0) (aCons (eVar 1) (aCons (eC (.int 4)) aNil)))) (gNm 8)) (sRet (eAnd (eOp wEq (eFn 1 F_families (aCons (eFn 2 F_turned (aCons (eVar 2) (aCons (eVar 8) aNil))) aNil)) (eFn 1 F_families (aCons (eVar 2) aNil))) (eOp wEq (eFn 1 F_can_mirror (aCons (eFn 1 F_mirrored (aCons (eVar 2) aNil)) aNil)) (eFn 1 F_can_mirror (aCons (eVar 2) aNil))))))
noncomputable def b_law_k30_4 : SF := shut (sSeq (sIf (bAnd (bVal (eOp wEq (eFn 1 F_law_kind (aCons (eVar 2) aNil)) (eC (.str "free")))) (bVal (eOp wNe (eCall bLen (aCons (eFn 1 F_round_joints (aCons (eVar 2) aNil)) aNil)) (eC (.int 2))))) (sRet (eC (.bl false))) sNext) b_law_k30_3)
noncomputable def b_law_k30_5 : SF := shut (sSeq (sIf (bOr (bVal (eOp wNe (eFn 1 F_can_mirror (aCons (eVar 2) aNil)) (eOp wEq (eFn 1 F_families (aCons (eVar 2) aNil)) (eC (.int 1))))) (bVal (eOp wNe (eFn 1 F_can_mirror (aCons (eVar 2) aNil)) (eOp wNe (eFn 1 F_law_kind (aCons (eVar 2) aNil)) (eC (.str "free")))))) (sRet (eC (.bl false))) sNext) b_law_k30_4)
noncomputable def b_law_k30_6 : SF := shut (sSeq (sIf (bVal (eOp wNe (eFn 1 F_can_lie_flat (aCons (eVar 2) aNil)) (eOp wIn (eC (.int 0)) (eVar 5)))) (sRet (eC (.bl false))) sNext) b_law_k30_5)
noncomputable def b_law_k30_7 : SF := shut (sSeq (sFor (iRg (aCons (eC (.int 8)) aNil)) (gNm 6) b_law_k30_2) b_law_k30_6)
noncomputable def b_law_k30_8 : SF := shut (sSeq (sAsg (eNew aNil) (gNm 5)) b_law_k30_7)
noncomputable def b_law_k30_9 : SF := shut (sSeq (sFor (iSeq (eTup (aCons (eC (.int 0)) (aCons (eC (.int 1)) aNil)))) (gNm 3) b_law_k30_1) b_law_k30_8)
noncomputable def b_law_k30_10 : SF := shut (sSeq (sAsg (eFn 3 F_law_ring (aCons (eVar 0) (aCons (eVar 1) (aCons (eFn 3 F_law_pick (aCons (eVar 0) (aCons (eVar 1) (aCons (eLst (aCons (eC (.int 4)) (aCons (eC (.int 12)) (aCons (eC (.int 50)) aNil)))) aNil)))) aNil)))) (gNm 2)) b_law_k30_9)
noncomputable def b_law_k30 : SF := shut (sSeq (sAsg (eFn 1 F_law_town (aCons (eVar 0) aNil)) (gNm 1)) b_law_k30_10)
noncomputable def F_law_k30 : List W → Store → Res W := runF 11 b_law_k30
def b_scaled_1 : SF := (sSeq (sIf (bVal (eOp wGt (eOp wMul (eCall bMax (aCons (eVar 0) aNil)) (eVar 1)) (eC (.int 50)))) (sRaise "TooLong") sNext) (sRet (eCall bTuple (aCons (eLc [2] (iSeq (eVar 0)) (gNm 2) bYes (eOp wMul (eVar 2) (eVar 1))) aNil))))
def b_scaled_2 : SF := (sSeq (sEx (eFn 3 F_check_number (aCons (eVar 1) (aCons (eC (.int 1)) (aCons (eC (.int 50)) aNil))))) b_scaled_1)
def b_scaled : SF := (sSeq (sEx (eFn 1 F_check_ring (aCons (eVar 0) aNil))) b_scaled_2)
def F_scaled : List W → Store → Res W := runF 3 b_scaled
def b_reduced : SF := (sSeq (sAsg (eFn 2 F_divisor (aCons (eFn 2 F_divisor (aCons (eOp wIx (eVar 0) (eC (.int 0))) (aCons (eOp wIx (eVar 0) (eC (.int 1))) aNil))) (aCons (eFn 2 F_divisor (aCons (eOp wIx (eVar 0) (eC (.int 2))) (aCons (eOp wIx (eVar 0) (eC (.int 3))) aNil))) aNil))) (gNm 1)) (sRet (eFn 1 F_first_like (aCons (eCall bTuple (aCons (eLc [2] (iSeq (eVar 0)) (gNm 2) bYes (eOp wFdiv (eVar 2) (eVar 1))) aNil)) aNil))))
def F_reduced : List W → Store → Res W := runF 3 b_reduced
def b_move_alike_1 : SF := (sSeq (sEx (eFn 1 F_check_ring (aCons (eVar 1) aNil))) (sRet (eOp wEq (eFn 1 F_reduced (aCons (eVar 0) aNil)) (eFn 1 F_reduced (aCons (eVar 1) aNil)))))
def b_move_alike : SF := (sSeq (sEx (eFn 1 F_check_ring (aCons (eVar 0) aNil))) b_move_alike_1)
def F_move_alike : List W → Store → Res W := runF 2 b_move_alike
def b_same_openings_1 : SF := (sSeq (sEx (eFn 1 F_check_ring (aCons (eVar 1) aNil))) (sRet (eCall bAll (aCons (eLc [2] (iRg (aCons (eC (.int 4)) aNil)) (gNm 2) bYes (eOp wEq (eFn 2 F_cosines_of (aCons (eVar 0) (aCons (eVar 2) aNil))) (eFn 2 F_cosines_of (aCons (eVar 1) (aCons (eVar 2) aNil))))) aNil))))
def b_same_openings : SF := (sSeq (sEx (eFn 1 F_check_ring (aCons (eVar 0) aNil))) b_same_openings_1)
def F_same_openings : List W → Store → Res W := runF 3 b_same_openings
def b_law_other_1 : SF := (sSeq (sIf (bVal (eOp wEq (eVar 3) (eC (.int 3)))) (sRet (eFn 3 F_law_pick (aCons (eVar 0) (aCons (eVar 1) (aCons (eLst (aCons (eVar 2) (aCons (eUn wRev (eVar 2)) aNil))) aNil))))) sNext) (sRet (eFn 3 F_law_ring (aCons (eVar 0) (aCons (eVar 1) (aCons (eC (.int 6)) aNil))))))
def b_law_other_2 : SF := (sSeq (sIf (bVal (eOp wEq (eVar 3) (eC (.int 2)))) (sRet (eTup (aCons (eOp wIx (eVar 2) (eC (.int 1))) (aCons (eOp wIx (eVar 2) (eC (.int 0))) (aCons (eOp wIx (eVar 2) (eC (.int 2))) (aCons (eOp wIx (eVar 2) (eC (.int 3))) aNil)))))) sNext) b_law_other_1)
def b_law_other_3 : SF := (sSeq (sIf (bAnd (bVal (eOp wEq (eVar 3) (eC (.int 1)))) (bVal (eOp wLe (eOp wMul (eCall bMax (aCons (eVar 2) aNil)) (eVar 4)) (eC (.int 50))))) (sRet (eFn 3 F_law_pick (aCons (eVar 0) (aCons (eVar 1) (aCons (eFn 1 F_law_likes (aCons (eCall bTuple (aCons (eLc [5] (iSeq (eVar 2)) (gNm 5) bYes (eOp wMul (eVar 5) (eVar 4))) aNil)) aNil)) aNil))))) sNext) b_law_other_2)
def b_law_other_4 : SF := (sSeq (sIf (bVal (eOp wEq (eVar 3) (eC (.int 0)))) (sRet (eFn 3 F_law_pick (aCons (eVar 0) (aCons (eVar 1) (aCons (eFn 1 F_law_likes (aCons (eVar 2) aNil)) aNil))))) sNext) b_law_other_3)
def b_law_other : SF := (sSeq (sAsg (eTup (aCons (eFn 3 F_law_draw (aCons (eVar 0) (aCons (eVar 1) (aCons (eC (.int 5)) aNil)))) (aCons (eOp wAdd (eC (.int 1)) (eFn 3 F_law_draw (aCons (eVar 0) (aCons (eVar 1) (aCons (eC (.int 3)) aNil))))) aNil))) (gTu 2 (gsCons (gNm 3) (gsCons (gNm 4) gsNil)))) b_law_other_4)
def F_law_other : List W → Store → Res W := runF 6 b_law_other
def b_law_k60_1 : SF := (sSeq (sAsg (eLc [11] (iRg (aCons (eC (.int 4)) aNil)) (gNm 11) bYes (eOp wSub (eOp wMul (eOp wIx (eVar 5) (eVar 11)) (eOp wIx (eVar 3) (eC (.int 0)))) (eOp wMul (eOp wIx (eVar 5) (eC (.int 0))) (eOp wIx (eVar 3) (eVar 11))))) (gNm 6)) (sAsg (eOr (eVar 4) (eOp wEq (eVar 6) (eOp wMul (eLst (aCons (eC (.int 0)) aNil)) (eC (.int 4))))) (gNm 4)))
def b_law_k60_2 : SF := (sSeq (sAsg (eFn 2 F_cosines (aCons (eFn 1 F_mirrored (aCons (eVar 2) aNil)) (aCons (eC (.int 0)) aNil))) (gNm 10)) (sRet (eAnd (eOp wEq (eVar 10) (eFn 2 F_cosines (aCons (eVar 2) (aCons (eC (.int 2)) aNil)))) (eOp wEq (eFn 2 F_cosines (aCons (eFn 2 F_turned (aCons (eVar 2) (aCons (eC (.int 1)) aNil))) (aCons (eC (.int 0)) aNil))) (eFn 2 F_cosines (aCons (eVar 2) (aCons (eC (.int 1)) aNil)))))))
def b_law_k60_3 : SF := (sSeq (sIf (bVal (eOp wNe (eFn 2 F_bounds (aCons (eVar 9) (aCons (eC (.int 1)) aNil))) (eCall bTuple (aCons (eLc [5] (iSeq (eFn 2 F_bounds (aCons (eVar 2) (aCons (eC (.int 1)) aNil)))) (gNm 5) bYes (eOp wMul (eVar 8) (eVar 5))) aNil)))) (sRet (eC (.bl false))) sNext) b_law_k60_2)
def b_law_k60_4 : SF := (sSeq (sIf (bOr (bNot (bVal (eFn 2 F_move_alike (aCons (eVar 9) (aCons (eVar 2) aNil))))) (bOr (bNot (bVal (eFn 2 F_same_openings (aCons (eVar 9) (aCons (eVar 2) aNil))))) (bVal (eOp wNe (eFn 1 F_round_joints (aCons (eVar 9) aNil)) (eFn 1 F_round_joints (aCons (eVar 2) aNil)))))) (sRet (eC (.bl false))) sNext) b_law_k60_3)
def b_law_k60_5 : SF := (sSeq (sIf (bVal (eOp wNe (eVar 9) (eCall bTuple (aCons (eLc [5] (iSeq (eVar 2)) (gNm 5) bYes (eOp wMul (eVar 5) (eVar 8))) aNil)))) (sRet (eC (.bl false))) sNext) b_law_k60_4)
def b_law_k60_6 : SF := (sSeq (sAsg (eFn 2 F_scaled (aCons (eVar 2) (aCons (eVar 8) aNil))) (gNm 9)) b_law_k60_5)
def b_law_k60_7 : SF := (sSeq (sAsg (eOp wAdd (eC (.int 1)) (eFn 3 F_law_draw (aCons (eVar 0) (aCons (eVar 1) (aCons (eOp wFdiv (eC (.int 50)) (eCall bMax (aCons (eVar 2) aNil))) aNil))))) (gNm 8)) b_law_k60_6)
def b_law_k60_8 : SF := (sSeq (sIf (bAnd (bVal (eVar 4)) (bVal (eOp wNe (eOp wIx (eVar 6) (eC (.int 0))) (eOp wIx (eVar 6) (eC (.int 1)))))) (sRet (eC (.bl false))) sNext) b_law_k60_7)
def b_law_k60_9 : SF := (sSeq (sAsg (eLc [5] (iSeq (eTup (aCons (eVar 2) (aCons (eVar 3) aNil)))) (gNm 5) bYes (eTup (aCons (eFn 1 F_law_kind (aCons (eVar 5) aNil)) (aCons (eFn 1 F_families (aCons (eVar 5) aNil)) aNil)))) (gNm 6)) b_law_k60_8)
def b_law_k60_10 : SF := (sSeq (sIf (bOr (bVal (eOp wNe (eFn 2 F_same_openings (aCons (eVar 2) (aCons (eVar 3) aNil))) (eVar 7))) (bVal (eOp wNe (eFn 2 F_same_openings (aCons (eVar 3) (aCons (eVar 2) aNil))) (eVar 7)))) (sRet (eC (.bl false))) sNext) b_law_k60_9)
def b_law_k60_11 : SF := (sSeq (sAsg (eOp wEq (eLc [11] (iRg (aCons (eC (.int 4)) aNil)) (gNm 11) (bVal (eOp wNe (eFn 2 F_cosines (aCons (eVar 2) (aCons (eVar 11) aNil))) (eFn 2 F_cosines (aCons (eVar 3) (aCons (eVar 11) aNil))))) (eVar 11)) (eLst aNil)) (gNm 7)) b_law_k60_10)
def b_law_k60_12 : SF := (sSeq (sIf (bOr (bVal (eOp wNe (eFn 2 F_move_alike (aCons (eVar 2) (aCons (eVar 3) aNil))) (eVar 4))) (bVal (eOp wNe (eFn 2 F_move_alike (aCons (eVar 3) (aCons (eVar 2) aNil))) (eVar 4)))) (sRet (eC (.bl false))) sNext) b_law_k60_11)
def b_law_k60_13 : SF := (sSeq (sFor (iSeq (eFn 1 F_law_likes (aCons (eVar 2) aNil))) (gNm 5) b_law_k60_1) b_law_k60_12)
def b_law_k60_14 : SF := (sSeq (sAsg (eC (.bl false)) (gNm 4)) b_law_k60_13)
def b_law_k60_15 : SF := (sSeq (sAsg (eFn 3 F_law_other (aCons (eVar 0) (aCons (eVar 1) (aCons (eVar 2) aNil)))) (gNm 3)) b_law_k60_14)
def b_law_k60_16 : SF := (sSeq (sAsg (eFn 3 F_law_ring (aCons (eVar 0) (aCons (eVar 1) (aCons (eFn 3 F_law_pick (aCons (eVar 0) (aCons (eVar 1) (aCons (eLst (aCons (eC (.int 4)) (aCons (eC (.int 12)) aNil))) aNil)))) aNil)))) (gNm 2)) b_law_k60_15)
def b_law_k60 : SF := (sSeq (sAsg (eFn 1 F_law_town (aCons (eVar 0) aNil)) (gNm 1)) b_law_k60_16)
def F_law_k60 : List W → Store → Res W := runF 12 b_law_k60
def b_with_length : SF := (sRet (eOp wAdd (eOp wAdd (eSl (eVar 0) oNo (oSome (eVar 1))) (eTup (aCons (eVar 2) aNil))) (eSl (eVar 0) (oSome (eOp wAdd (eVar 1) (eC (.int 1)))) oNo)))
def F_with_length : List W → Store → Res W := runF 3 b_with_length
def b_closing_1 : SF := (sSeq (sAsg (eLc [3] (iRg2 (aCons (eC (.int 1)) (aCons (eC (.int 51)) aNil))) (gNm 3) (bVal (eFn 1 F_is_ring (aCons (eFn 3 F_with_length (aCons (eVar 0) (aCons (eVar 1) (aCons (eVar 3) aNil)))) aNil))) (eVar 3)) (gNm 2)) (sRet (eTup (aCons (eOp wIx (eVar 2) (eC (.int 0))) (aCons (eOp wIx (eVar 2) (eUn wNeg (eC (.int 1)))) aNil)))))
def b_closing_2 : SF := (sSeq (sEx (eFn 3 F_check_number (aCons (eVar 1) (aCons (eC (.int 0)) (aCons (eC (.int 3)) aNil))))) b_closing_1)
def b_closing : SF := (sSeq (sEx (eFn 1 F_check_ring (aCons (eVar 0) aNil))) b_closing_2)
def F_closing : List W → Store → Res W := runF 4 b_closing
def b_law_moves_along_1 : SF := (sSeq (sIf (bVal (eOp wNe (eFn 3 F_count_positions (aCons (eVar 3) (aCons (eVar 5) (aCons (eVar 2) aNil)))) (eFn 3 F_count_positions (aCons (eVar 0) (aCons (eVar 6) (aCons (eVar 2) aNil)))))) (sRet (eC (.bl false))) sNext) (sIf (bVal (eOp wNe (eFn 3 F_other_squares (aCons (eVar 4) (aCons (eVar 6) (aCons (eVar 2) aNil)))) (eFn 3 F_other_squares (aCons (eVar 0) (aCons (eVar 6) (aCons (eVar 2) aNil)))))) (sRet (eC (.bl false))) sNext))
def b_law_moves_along_2 : SF := (sSeq (sIf (bVal (eOp wNe (eFn 3 F_other_squares (aCons (eVar 3) (aCons (eVar 5) (aCons (eVar 2) aNil)))) (eFn 3 F_other_squares (aCons (eVar 0) (aCons (eVar 6) (aCons (eVar 2) aNil)))))) (sRet (eC (.bl false))) sNext) b_law_moves_along_1)
def b_law_moves_along_3 : SF := (sSeq (sIf (bVal (eOp wNe (eFn 3 F_opened (aCons (eVar 3) (aCons (eVar 5) (aCons (eVar 2) aNil)))) (eIf (bVal (eVar 7)) (eUn wRev (eVar 8)) (eVar 8)))) (sRet (eC (.bl false))) sNext) b_law_moves_along_2)
def b_law_moves_along_4 : SF := (sSeq (sAsg (eFn 3 F_opened (aCons (eVar 0) (aCons (eVar 6) (aCons (eVar 2) aNil)))) (gNm 8)) b_law_moves_along_3)
def b_law_moves_along_5 : SF := (sSeq (sIf (bVal (eOp wNe (eFn 3 F_has_position (aCons (eVar 3) (aCons (eVar 5) (aCons (eVar 2) aNil)))) (eFn 3 F_has_position (aCons (eVar 0) (aCons (eVar 6) (aCons (eVar 2) aNil)))))) (sRet (eC (.bl false))) sNext) (sIf (bAnd (bVal (eOp wGt (eVar 2) (eC (.int 0)))) (bVal (eFn 3 F_has_position (aCons (eVar 0) (aCons (eVar 6) (aCons (eVar 2) aNil)))))) b_law_moves_along_4 sNext))
def b_law_moves_along_6 : SF := (sSeq (sIf (bOr (bVal (eOp wNe (eFn 2 F_bounds (aCons (eVar 3) (aCons (eVar 5) aNil))) (eFn 2 F_bounds (aCons (eVar 0) (aCons (eVar 6) aNil))))) (bVal (eOp wNe (eFn 2 F_bounds (aCons (eVar 4) (aCons (eVar 5) aNil))) (eFn 2 F_bounds (aCons (eVar 0) (aCons (eVar 5) aNil)))))) (sRet (eC (.bl false))) sNext) b_law_moves_along_5)
def b_law_moves_along_7 : SF := (sSeq (sPr 6 7 (aCons (eOp wMod (eOp wAdd (eVar 5) (eVar 1)) (eC (.int 2))) (aCons (eOp wGe (eOp wMod (eOp wAdd (eVar 5) (eVar 1)) (eC (.int 4))) (eC (.int 2))) aNil))) b_law_moves_along_6)
def b_law_moves_along_8 : SF := (sSeq (sFor (iSeq (eTup (aCons (eC (.int 0)) (aCons (eC (.int 1)) aNil)))) (gNm 5) b_law_moves_along_7) (sRet (eC (.bl true))))
def b_law_moves_along : SF := (sSeq (sPr 3 4 (aCons (eFn 2 F_turned (aCons (eVar 0) (aCons (eVar 1) aNil))) (aCons (eFn 1 F_mirrored (aCons (eVar 0) aNil)) aNil))) b_law_moves_along_8)
def F_law_moves_along : List W → Store → Res W := runF 9 b_law_moves_along
def b_law_k61_1 : SF := (sSeq (sIf (bOr (bVal (eOp wNe (eFn 2 F_round_neighbours (aCons (eVar 4) (aCons (eVar 7) aNil))) (eVar 8))) (bVal (eOp wNe (eFn 2 F_closing (aCons (eVar 4) (aCons (eVar 7) aNil))) (eFn 2 F_closing (aCons (eVar 2) (aCons (eOp wMod (eOp wAdd (eVar 7) (eVar 3)) (eC (.int 4))) aNil)))))) (sRet (eC (.bl false))) sNext) (sIf (bVal (eOp wNe (eFn 2 F_round_neighbours (aCons (eVar 5) (aCons (eOp wSub (eC (.int 3)) (eVar 7)) aNil))) (eCall bTuple (aCons (eCall bSorted (aCons (eLc [9] (iSeq (eFn 2 F_round_neighbours (aCons (eVar 2) (aCons (eVar 7) aNil)))) (gNm 9) bYes (eOp wSub (eC (.int 3)) (eVar 9))) aNil)) aNil)))) (sRet (eC (.bl false))) sNext))
def b_law_k61_2 : SF := (sSeq (sAsg (eCall bTuple (aCons (eCall bSorted (aCons (eLc [9] (iSeq (eFn 2 F_round_neighbours (aCons (eVar 2) (aCons (eOp wMod (eOp wAdd (eVar 7) (eVar 3)) (eC (.int 4))) aNil)))) (gNm 9) bYes (eOp wMod (eOp wSub (eVar 9) (eVar 3)) (eC (.int 4)))) aNil)) aNil)) (gNm 8)) b_law_k61_1)
def b_law_k61_3 : SF := (sSeq (sIf (bVal (eOp wNe (eFn 2 F_turns_round (aCons (eVar 5) (aCons (eVar 7) aNil))) (eFn 2 F_turns_round (aCons (eVar 2) (aCons (eOp wMod (eOp wSub (eC (.int 6)) (eVar 7)) (eC (.int 4))) aNil))))) (sRet (eC (.bl false))) sNext) b_law_k61_2)
def b_law_k61_4 : SF := (sSeq (sIf (bOr (bVal (eOp wNe (eFn 2 F_cosines (aCons (eVar 4) (aCons (eVar 7) aNil))) (eFn 2 F_cosines (aCons (eVar 2) (aCons (eOp wMod (eOp wAdd (eVar 7) (eVar 3)) (eC (.int 4))) aNil))))) (bVal (eOp wNe (eFn 2 F_cosines (aCons (eVar 5) (aCons (eVar 7) aNil))) (eFn 2 F_cosines (aCons (eVar 2) (aCons (eOp wMod (eOp wSub (eC (.int 6)) (eVar 7)) (eC (.int 4))) aNil)))))) (sRet (eC (.bl false))) sNext) b_law_k61_3)
def b_law_k61_5 : SF := (sSeq (sIf (bNot (bVal (eFn 3 F_law_moves_along (aCons (eVar 2) (aCons (eVar 3) (aCons (eVar 6) aNil)))))) (sRet (eC (.bl false))) sNext) (sRet (eAnd (eOp wEq (eFn 1 F_kind (aCons (eVar 4) aNil)) (eFn 1 F_kind (aCons (eVar 2) aNil))) (eAnd (eOp wEq (eFn 1 F_kind (aCons (eVar 5) aNil)) (eFn 1 F_kind (aCons (eVar 2) aNil))) (eOp wEq (eFn 2 F_turned (aCons (eVar 4) (aCons (eOp wMod (eOp wSub (eC (.int 4)) (eVar 3)) (eC (.int 4))) aNil))) (eVar 2))))))
def b_law_k61_6 : SF := (sSeq (sFor (iRg (aCons (eC (.int 4)) aNil)) (gNm 7) b_law_k61_4) b_law_k61_5)
def b_law_k61_7 : SF := (sSeq (sAsg (eFn 3 F_law_draw (aCons (eVar 0) (aCons (eVar 1) (aCons (eC (.int 400)) aNil)))) (gNm 6)) b_law_k61_6)
def b_law_k61_8 : SF := (sSeq (sPr 4 5 (aCons (eFn 2 F_turned (aCons (eVar 2) (aCons (eVar 3) aNil))) (aCons (eFn 1 F_mirrored (aCons (eVar 2) aNil)) aNil))) b_law_k61_7)
def b_law_k61_9 : SF := (sSeq (sAsg (eFn 3 F_law_draw (aCons (eVar 0) (aCons (eVar 1) (aCons (eC (.int 4)) aNil)))) (gNm 3)) b_law_k61_8)
def b_law_k61_10 : SF := (sSeq (sAsg (eFn 3 F_law_ring (aCons (eVar 0) (aCons (eVar 1) (aCons (eFn 3 F_law_pick (aCons (eVar 0) (aCons (eVar 1) (aCons (eLst (aCons (eC (.int 4)) (aCons (eC (.int 12)) (aCons (eC (.int 50)) aNil)))) aNil)))) aNil)))) (gNm 2)) b_law_k61_9)
def b_law_k61 : SF := (sSeq (sAsg (eFn 1 F_law_town (aCons (eVar 0) aNil)) (gNm 1)) b_law_k61_10)
def F_law_k61 : List W → Store → Res W := runF 10 b_law_k61
end G
end
section
set_option maxHeartbeats 4000000
set_option maxRecDepth 100000
namespace G
open PySem L2 Iv
/-! ### the draws -/
theorem depth_ints : ∀ ns : List Int, PyData.depthAll (ns.map PyData.int) = 0 := PySem.W.depth_ints
theorem lay_ints : ∀ ns : List Int, PyData.canLayAll0 (ns.map PyData.int) = true
  | [] => rfl
  | n :: r => by
    simp only [List.map_cons, PyData.canLayAll0, PyData.canLay0, Bool.true_and]
    exact lay_ints r
theorem shaped_ints (ns : List Int) : SeqAt.shaped (.list (ns.map PyData.int)) = true := by
  unfold SeqAt.shaped
  rw [Bool.and_eq_true, decide_eq_true_eq]
  refine ⟨by simp only [PyData.canLay0]; exact lay_ints ns, ?_⟩
  have := depth_ints ns
  simp only [PyData.depth]
  omega
/-- the town: the number of draws, what is left of each cell -/
def Town (ns : List Int) (c : Int) (o : MO) : Prop := ∃ ts : List Int, ts.length = ns.length ∧ o = .L (.int c :: ts.map .int)
theorem town_spec (ns : List Int) (S : Store) : ∃ o, Town ns 0 o ∧ (ns.length ≤ 63 → F_law_town [.scr ns] S = .ok (.mt S.length) (S ++ [o])) := by
  refine ⟨.L (.int 0 :: ns.map .int), ⟨ns, rfl, rfl⟩, fun h => ?_⟩
  have h2 : 1 + ns.length ≤ 100000 := by omega
  simp [F_law_town, b_law_town, Iv.eVar, Iv.eC, Iv.eOp, Iv.eUn, Iv.aNil, Iv.aCons, Iv.eCall, Iv.eTup, Iv.eLst, Iv.eNew, Iv.eAnd, Iv.eOr, Iv.wNot, Iv.bVal, Iv.bAnd, Iv.bOr, Iv.bNot, Iv.eIf, Iv.eChain, Iv.mkTup, Iv.mkLst, Iv.mkNew, Iv.wAdd, Iv.wSub, Iv.wMul, Iv.wFdiv, Iv.wMod, Iv.wPow, Iv.wNeg, Iv.wEq, Iv.wNe, Iv.wLt, Iv.wLe, Iv.wGt, Iv.wGe, Iv.wIs, Iv.wIsNot, Iv.isFlat, Iv.inW, Iv.wIn, Iv.wNotIn, Iv.wIx, Iv.dat, Iv.datL, Iv.datS, Iv.listOf, Iv.seqOf, Iv.stillOf, Iv.oNo, Iv.oSome, Iv.cutW, Iv.wSl, Iv.eSl, Iv.gNm, Iv.gsNil, Iv.gsCons, Iv.gTu, Iv.setAt, Iv.gIx, Iv.sNext, Iv.sSeq, Iv.sIf, Iv.sRet, Iv.sEx, Iv.sAsg, Iv.sRaise, Iv.sBreak, Iv.sCont, Iv.iSeq, Iv.iRg, Iv.iRg2, Iv.forF, Iv.sFor, Iv.gUl, Iv.sPr, Iv.sPr3, Iv.wipeE, Iv.bYes, Iv.lcF, Iv.eLc, Iv.okW, Iv.okWs, Iv.okO, Iv.frzW, Iv.frzWs, Iv.fin, Iv.finX, Iv.finN, Iv.start0, Iv.runF, Iv.runN, Iv.eFn, Iv.bSum, Iv.bSorted, Iv.bLen, Iv.bAbs, Iv.bTuple, Iv.bList, Iv.bListN, Iv.blsOf, Iv.bAll, Iv.bAny, Iv.bInt, Iv.bIsi, Iv.isi, Iv.wRev, Iv.eLm, Iv.mAppend, Iv.mPop, Iv.mPopAt, Iv.lc2F, Iv.eLc2, Iv.Res.bind, Iv.rangeW, Iv.wAddN, Iv.shut_eq, Iv.iZp, Iv.zipW, h2]
theorem atI_cons0 {α : Type} (x : α) (xs : List α) : L2.atI (x :: xs) 0 = some x := by
  unfold L2.atI ixN
  rw [if_pos (Int.le_refl 0), if_pos (by rw [List.length_cons]; omega)]
  rfl
theorem atI_pos {α : Type} (xs : List α) (i : Int) (h0 : 0 ≤ i) (h1 : i < xs.length) : L2.atI xs i = xs[i.toNat]? := by
  unfold L2.atI ixN
  rw [if_pos h0, if_pos h1]
  rfl
theorem ixN_pos (n : Nat) (i : Int) (h0 : 0 ≤ i) (h1 : i < n) : ixN n i = some i.toNat := by
  unfold ixN
  rw [if_pos h0, if_pos h1]
theorem draw_spec {ns : List Int} {S : Store} {k : Nat} {o : MO} {c limit : Int} (hS : S[k]? = some o) (ho : Town ns c o) (hc0 : 0 ≤ c) (hc : c < 1000000) (hl0 : 0 < limit) (hl : limit < 18446744073709551616) :
    ∃ r o', 0 ≤ r ∧ r < limit ∧ Town ns (c + 1) o' ∧ F_law_draw [.scr ns, .mt k, .int limit] S = .ok (.int r) (S.set k o') := by
  obtain ⟨ts, hts, rfl⟩ := ho
  have hk : k < S.length := (List.getElem?_eq_some_iff.mp hS).1
  have hT : (S.set k (.L (.int (c + 1) :: ts.map .int)))[k]? = some (.L (.int (c + 1) :: ts.map .int)) := List.getElem?_set_self hk
  have emod : ∀ x : Int, 0 ≤ x % limit ∧ x % limit < limit := fun x => ⟨Int.emod_nonneg x (by omega), Int.emod_lt_of_pos x hl0⟩
  by_cases hn : ns = []
  · subst hn
    have hts0 : ts = [] := List.eq_nil_of_length_eq_zero hts
    subst hts0
    refine ⟨(c + 1) * (c + 1) * 7 / 3 % limit, _, (emod _).1, (emod _).2, ⟨[], rfl, rfl⟩, ?_⟩
    have m1 : mulOk (c + 1) (c + 1) := .inl (by omega)
    have m2 : mulOk ((c + 1) * (c + 1)) 7 := .inr (by omega)
    have sh := shaped_ints []
    simp only [List.map_nil] at *
    simp [F_law_draw, b_law_draw, b_law_draw_1, b_law_draw_2, b_law_draw_3, b_law_draw_4, b_law_draw_5, b_law_draw_6, b_law_draw_7, Iv.eVar, Iv.eC, Iv.eOp, Iv.eUn, Iv.aNil, Iv.aCons, Iv.eCall, Iv.eTup, Iv.eLst, Iv.eNew, Iv.eAnd, Iv.eOr, Iv.wNot, Iv.bVal, Iv.bAnd, Iv.bOr, Iv.bNot, Iv.eIf, Iv.eChain, Iv.mkTup, Iv.mkLst, Iv.mkNew, Iv.wAdd, Iv.wSub, Iv.wMul, Iv.wFdiv, Iv.wMod, Iv.wPow, Iv.wNeg, Iv.wEq, Iv.wNe, Iv.wLt, Iv.wLe, Iv.wGt, Iv.wGe, Iv.wIs, Iv.wIsNot, Iv.isFlat, Iv.inW, Iv.wIn, Iv.wNotIn, Iv.wIx, Iv.dat, Iv.datL, Iv.datS, Iv.listOf, Iv.seqOf, Iv.stillOf, Iv.oNo, Iv.oSome, Iv.cutW, Iv.wSl, Iv.eSl, Iv.gNm, Iv.gsNil, Iv.gsCons, Iv.gTu, Iv.setAt, Iv.gIx, Iv.sNext, Iv.sSeq, Iv.sIf, Iv.sRet, Iv.sEx, Iv.sAsg, Iv.sRaise, Iv.sBreak, Iv.sCont, Iv.iSeq, Iv.iRg, Iv.iRg2, Iv.forF, Iv.sFor, Iv.gUl, Iv.sPr, Iv.sPr3, Iv.wipeE, Iv.bYes, Iv.lcF, Iv.eLc, Iv.okW, Iv.okWs, Iv.okO, Iv.frzW, Iv.frzWs, Iv.fin, Iv.finX, Iv.finN, Iv.start0, Iv.runF, Iv.runN, Iv.eFn, Iv.bSum, Iv.bSorted, Iv.bLen, Iv.bAbs, Iv.bTuple, Iv.bList, Iv.bListN, Iv.blsOf, Iv.bAll, Iv.bAny, Iv.bInt, Iv.bIsi, Iv.isi, Iv.wRev, Iv.eLm, Iv.mAppend, Iv.mPop, Iv.mPopAt, Iv.lc2F, Iv.eLc2, Iv.Res.bind, Iv.rangeW, Iv.wAddN, Iv.shut_eq, Iv.iZp, Iv.zipW, hS, hT, atI_cons0, ixN_pos, m1, m2, hl0, hl, sh, PyData.eqv, PyData.eqvAll]
  · have hlen : 0 < ns.length := List.length_pos_iff.mpr hn
    have hat0 : 0 ≤ (c + 1) % (ns.length : Int) := Int.emod_nonneg _ (by omega)
    have hat1 : (c + 1) % (ns.length : Int) < ns.length := Int.emod_lt_of_pos _ (by omega)
    have hlz : (0 : Int) < (ns.length : Int) := by omega
    generalize hat : (c + 1) % (ns.length : Int) = a at hat0 hat1
    have han : a.toNat < ns.length := by omega
    have hat2 : a.toNat < ts.length := by omega
    have e1 : L2.atI (ns.map W.int) a = some (.int ns[a.toNat]) := by
      rw [atI_pos _ _ hat0 (by simpa using hat1), List.getElem?_map, List.getElem?_eq_getElem han]
      rfl
    have e2 : L2.atI (.int (c + 1) :: ts.map W.int) (1 + a) = some (.int ts[a.toNat]) := by
      rw [atI_pos _ _ (by omega) (by simp; omega)]
      have : (1 + a).toNat = a.toNat + 1 := by omega
      rw [this, List.getElem?_cons_succ, List.getElem?_map, List.getElem?_eq_getElem hat2]
      rfl
    have e3 : ixN (ts.length + 1) (1 + a) = some (a.toNat + 1) := by
      rw [ixN_pos _ _ (by omega) (by omega)]
      congr 1
      omega
    have sh := shaped_ints ns
    have ne : PyData.eqvAll (ns.map PyData.int) [] = false := by
      cases ns with
      | nil => exact absurd rfl hn
      | cons n r => rfl
    have sh0 : SeqAt.shaped (.list []) = true := by rfl
    generalize hx : ns[a.toNat] = x at e1
    generalize hy : ts[a.toNat] = y at e2
    by_cases hb : 1000000000000000000 ≤ x ∧ 0 < y
    · refine ⟨y % limit, .L (.int (c + 1) :: (ts.set a.toNat (y / limit)).map .int), (emod _).1, (emod _).2, ⟨_, by simpa using hts, rfl⟩, ?_⟩
      have hset : (List.set (List.map W.int ts) a.toNat (W.int (y / limit))) = (ts.set a.toNat (y / limit)).map W.int := by rw [List.map_set]
      simp [F_law_draw, b_law_draw, b_law_draw_1, b_law_draw_2, b_law_draw_3, b_law_draw_4, b_law_draw_5, b_law_draw_6, b_law_draw_7, Iv.eVar, Iv.eC, Iv.eOp, Iv.eUn, Iv.aNil, Iv.aCons, Iv.eCall, Iv.eTup, Iv.eLst, Iv.eNew, Iv.eAnd, Iv.eOr, Iv.wNot, Iv.bVal, Iv.bAnd, Iv.bOr, Iv.bNot, Iv.eIf, Iv.eChain, Iv.mkTup, Iv.mkLst, Iv.mkNew, Iv.wAdd, Iv.wSub, Iv.wMul, Iv.wFdiv, Iv.wMod, Iv.wPow, Iv.wNeg, Iv.wEq, Iv.wNe, Iv.wLt, Iv.wLe, Iv.wGt, Iv.wGe, Iv.wIs, Iv.wIsNot, Iv.isFlat, Iv.inW, Iv.wIn, Iv.wNotIn, Iv.wIx, Iv.dat, Iv.datL, Iv.datS, Iv.listOf, Iv.seqOf, Iv.stillOf, Iv.oNo, Iv.oSome, Iv.cutW, Iv.wSl, Iv.eSl, Iv.gNm, Iv.gsNil, Iv.gsCons, Iv.gTu, Iv.setAt, Iv.gIx, Iv.sNext, Iv.sSeq, Iv.sIf, Iv.sRet, Iv.sEx, Iv.sAsg, Iv.sRaise, Iv.sBreak, Iv.sCont, Iv.iSeq, Iv.iRg, Iv.iRg2, Iv.forF, Iv.sFor, Iv.gUl, Iv.sPr, Iv.sPr3, Iv.wipeE, Iv.bYes, Iv.lcF, Iv.eLc, Iv.okW, Iv.okWs, Iv.okO, Iv.frzW, Iv.frzWs, Iv.fin, Iv.finX, Iv.finN, Iv.start0, Iv.runF, Iv.runN, Iv.eFn, Iv.bSum, Iv.bSorted, Iv.bLen, Iv.bAbs, Iv.bTuple, Iv.bList, Iv.bListN, Iv.blsOf, Iv.bAll, Iv.bAny, Iv.bInt, Iv.bIsi, Iv.isi, Iv.wRev, Iv.eLm, Iv.mAppend, Iv.mPop, Iv.mPopAt, Iv.lc2F, Iv.eLc2, Iv.Res.bind, Iv.rangeW, Iv.wAddN, Iv.shut_eq, Iv.iZp, Iv.zipW, hS, hT, atI_cons0, ixN_pos, hl0, hl, sh, sh0, PyData.eqv, ne, hat, hlz, hlen, e1, e2, e3, hb.1, hb.2]
    · refine ⟨(((((x + 104729 * (c + 1)) % 4294967291) ^ 5 % 4294967279 / 64 * 69621 + ((x + 104729 * (c + 1)) % 4294967291) ^ 5 % 4294967279) % 4294967231 / 8)) % limit, .L (.int (c + 1) :: ts.map .int), (emod _).1, (emod _).2, ⟨ts, hts, rfl⟩, ?_⟩
      · have m1 : mulOk 104729 (c + 1) := .inl (by omega)
        have m2 : ∀ z : Int, mulOk z 69621 := fun z => .inr (by omega)
        have p1 : ((x + 104729 * (c + 1)) % 4294967291).natAbs < 18446744073709551616 := by
          have h1 := Int.emod_nonneg (x + 104729 * (c + 1)) (show (4294967291 : Int) ≠ 0 by omega)
          have h2 := Int.emod_lt_of_pos (x + 104729 * (c + 1)) (show (0 : Int) < 4294967291 by omega)
          omega
        by_cases hx1 : 1000000000000000000 ≤ x
        · have hy1 : ¬ 0 < y := fun z => hb ⟨hx1, z⟩
          simp [F_law_draw, b_law_draw, b_law_draw_1, b_law_draw_2, b_law_draw_3, b_law_draw_4, b_law_draw_5, b_law_draw_6, b_law_draw_7, Iv.eVar, Iv.eC, Iv.eOp, Iv.eUn, Iv.aNil, Iv.aCons, Iv.eCall, Iv.eTup, Iv.eLst, Iv.eNew, Iv.eAnd, Iv.eOr, Iv.wNot, Iv.bVal, Iv.bAnd, Iv.bOr, Iv.bNot, Iv.eIf, Iv.eChain, Iv.mkTup, Iv.mkLst, Iv.mkNew, Iv.wAdd, Iv.wSub, Iv.wMul, Iv.wFdiv, Iv.wMod, Iv.wPow, Iv.wNeg, Iv.wEq, Iv.wNe, Iv.wLt, Iv.wLe, Iv.wGt, Iv.wGe, Iv.wIs, Iv.wIsNot, Iv.isFlat, Iv.inW, Iv.wIn, Iv.wNotIn, Iv.wIx, Iv.dat, Iv.datL, Iv.datS, Iv.listOf, Iv.seqOf, Iv.stillOf, Iv.oNo, Iv.oSome, Iv.cutW, Iv.wSl, Iv.eSl, Iv.gNm, Iv.gsNil, Iv.gsCons, Iv.gTu, Iv.setAt, Iv.gIx, Iv.sNext, Iv.sSeq, Iv.sIf, Iv.sRet, Iv.sEx, Iv.sAsg, Iv.sRaise, Iv.sBreak, Iv.sCont, Iv.iSeq, Iv.iRg, Iv.iRg2, Iv.forF, Iv.sFor, Iv.gUl, Iv.sPr, Iv.sPr3, Iv.wipeE, Iv.bYes, Iv.lcF, Iv.eLc, Iv.okW, Iv.okWs, Iv.okO, Iv.frzW, Iv.frzWs, Iv.fin, Iv.finX, Iv.finN, Iv.start0, Iv.runF, Iv.runN, Iv.eFn, Iv.bSum, Iv.bSorted, Iv.bLen, Iv.bAbs, Iv.bTuple, Iv.bList, Iv.bListN, Iv.blsOf, Iv.bAll, Iv.bAny, Iv.bInt, Iv.bIsi, Iv.isi, Iv.wRev, Iv.eLm, Iv.mAppend, Iv.mPop, Iv.mPopAt, Iv.lc2F, Iv.eLc2, Iv.Res.bind, Iv.rangeW, Iv.wAddN, Iv.shut_eq, Iv.iZp, Iv.zipW, hS, hT, atI_cons0, ixN_pos, hl0, hl, sh, sh0, PyData.eqv, ne, hat, hlz, hlen, e1, e2, e3, hx1, hy1, m1, m2, p1]
        · simp [F_law_draw, b_law_draw, b_law_draw_1, b_law_draw_2, b_law_draw_3, b_law_draw_4, b_law_draw_5, b_law_draw_6, b_law_draw_7, Iv.eVar, Iv.eC, Iv.eOp, Iv.eUn, Iv.aNil, Iv.aCons, Iv.eCall, Iv.eTup, Iv.eLst, Iv.eNew, Iv.eAnd, Iv.eOr, Iv.wNot, Iv.bVal, Iv.bAnd, Iv.bOr, Iv.bNot, Iv.eIf, Iv.eChain, Iv.mkTup, Iv.mkLst, Iv.mkNew, Iv.wAdd, Iv.wSub, Iv.wMul, Iv.wFdiv, Iv.wMod, Iv.wPow, Iv.wNeg, Iv.wEq, Iv.wNe, Iv.wLt, Iv.wLe, Iv.wGt, Iv.wGe, Iv.wIs, Iv.wIsNot, Iv.isFlat, Iv.inW, Iv.wIn, Iv.wNotIn, Iv.wIx, Iv.dat, Iv.datL, Iv.datS, Iv.listOf, Iv.seqOf, Iv.stillOf, Iv.oNo, Iv.oSome, Iv.cutW, Iv.wSl, Iv.eSl, Iv.gNm, Iv.gsNil, Iv.gsCons, Iv.gTu, Iv.setAt, Iv.gIx, Iv.sNext, Iv.sSeq, Iv.sIf, Iv.sRet, Iv.sEx, Iv.sAsg, Iv.sRaise, Iv.sBreak, Iv.sCont, Iv.iSeq, Iv.iRg, Iv.iRg2, Iv.forF, Iv.sFor, Iv.gUl, Iv.sPr, Iv.sPr3, Iv.wipeE, Iv.bYes, Iv.lcF, Iv.eLc, Iv.okW, Iv.okWs, Iv.okO, Iv.frzW, Iv.frzWs, Iv.fin, Iv.finX, Iv.finN, Iv.start0, Iv.runF, Iv.runN, Iv.eFn, Iv.bSum, Iv.bSorted, Iv.bLen, Iv.bAbs, Iv.bTuple, Iv.bList, Iv.bListN, Iv.blsOf, Iv.bAll, Iv.bAny, Iv.bInt, Iv.bIsi, Iv.isi, Iv.wRev, Iv.eLm, Iv.mAppend, Iv.mPop, Iv.mPopAt, Iv.lc2F, Iv.eLc2, Iv.Res.bind, Iv.rangeW, Iv.wAddN, Iv.shut_eq, Iv.iZp, Iv.zipW, hS, hT, atI_cons0, ixN_pos, hl0, hl, sh, sh0, PyData.eqv, ne, hat, hlz, hlen, e1, e2, e3, hx1, m1, m2, p1]
/-! ### rings -/
abbrev t4 (a b c d : Int) : W := .tup [.int a, .int b, .int c, .int d]
def cl4 (a b c d : Int) : Bool := decide (a < b + c + d ∧ b < a + c + d ∧ c < a + b + d ∧ d < a + b + c)
theorem closes_spec (a b c d : Int) (S : Store) : F_law_closes [t4 a b c d] S = .ok (.bl (cl4 a b c d)) S := by
  have e0 : SeqAt.shaped (.int 0) = true := rfl
  by_cases h1 : a + (b + (c + d)) - a ≤ a <;> by_cases h2 : a + (b + (c + d)) - b ≤ b <;> by_cases h3 : a + (b + (c + d)) - c ≤ c <;> by_cases h4 : a + (b + (c + d)) - d ≤ d <;>
    simp [F_law_closes, b_law_closes, Iv.eVar, Iv.eC, Iv.eOp, Iv.eUn, Iv.aNil, Iv.aCons, Iv.eCall, Iv.eTup, Iv.eLst, Iv.eNew, Iv.eAnd, Iv.eOr, Iv.wNot, Iv.bVal, Iv.bAnd, Iv.bOr, Iv.bNot, Iv.eIf, Iv.eChain, Iv.mkTup, Iv.mkLst, Iv.mkNew, Iv.wAdd, Iv.wSub, Iv.wMul, Iv.wFdiv, Iv.wMod, Iv.wPow, Iv.wNeg, Iv.wEq, Iv.wNe, Iv.wLt, Iv.wLe, Iv.wGt, Iv.wGe, Iv.wIs, Iv.wIsNot, Iv.isFlat, Iv.inW, Iv.wIn, Iv.wNotIn, Iv.wIx, Iv.dat, Iv.datL, Iv.datS, Iv.listOf, Iv.seqOf, Iv.stillOf, Iv.oNo, Iv.oSome, Iv.cutW, Iv.wSl, Iv.eSl, Iv.gNm, Iv.gsNil, Iv.gsCons, Iv.gTu, Iv.setAt, Iv.gIx, Iv.sNext, Iv.sSeq, Iv.sIf, Iv.sRet, Iv.sEx, Iv.sAsg, Iv.sRaise, Iv.sBreak, Iv.sCont, Iv.iSeq, Iv.iRg, Iv.iRg2, Iv.forF, Iv.sFor, Iv.gUl, Iv.sPr, Iv.sPr3, Iv.wipeE, Iv.bYes, Iv.lcF, Iv.eLc, Iv.okW, Iv.okWs, Iv.okO, Iv.frzW, Iv.frzWs, Iv.fin, Iv.finX, Iv.finN, Iv.start0, Iv.runF, Iv.runN, Iv.eFn, Iv.bSum, Iv.bSorted, Iv.bLen, Iv.bAbs, Iv.bTuple, Iv.bList, Iv.bListN, Iv.blsOf, Iv.bAll, Iv.bAny, Iv.bInt, Iv.bIsi, Iv.isi, Iv.wRev, Iv.eLm, Iv.mAppend, Iv.mPop, Iv.mPopAt, Iv.lc2F, Iv.eLc2, Iv.Res.bind, Iv.rangeW, Iv.wAddN, Iv.shut_eq, Iv.iZp, Iv.zipW, intsOf, h1, h2, h3, h4, PyData.eqv, SeqAt.shaped, PyData.canLay0, PyData.depth, cl4] <;> omega
end G
end
section
set_option maxHeartbeats 4000000
set_option maxRecDepth 100000
namespace G
open PySem L2 Iv
/-! ### four sorted -/
structure Srt (a b c d x0 x1 x2 x3 : Int) : Prop where
  h01 : x0 ≤ x1
  h12 : x1 ≤ x2
  h23 : x2 ≤ x3
  sum : x0 + x1 + x2 + x3 = a + b + c + d
  mx : (a = x3 ∧ b ≤ x2 ∧ c ≤ x2 ∧ d ≤ x2) ∨ (b = x3 ∧ a ≤ x2 ∧ c ≤ x2 ∧ d ≤ x2) ∨ (c = x3 ∧ a ≤ x2 ∧ b ≤ x2 ∧ d ≤ x2) ∨ (d = x3 ∧ a ≤ x2 ∧ b ≤ x2 ∧ c ≤ x2)
  mn : (a = x0 ∧ x1 ≤ b ∧ x1 ≤ c ∧ x1 ≤ d) ∨ (b = x0 ∧ x1 ≤ a ∧ x1 ≤ c ∧ x1 ≤ d) ∨ (c = x0 ∧ x1 ≤ a ∧ x1 ≤ b ∧ x1 ≤ d) ∨ (d = x0 ∧ x1 ≤ a ∧ x1 ≤ b ∧ x1 ≤ c)
theorem sort2 (c d : Int) : ∃ y0 y1, sortI [c, d] = [y0, y1] ∧ y0 ≤ y1 ∧ ((c = y0 ∧ d = y1) ∨ (c = y1 ∧ d = y0)) := by
  simp only [sortI, insI]
  split
  · exact ⟨c, d, rfl, by omega, by omega⟩
  · exact ⟨d, c, rfl, by omega, by omega⟩
theorem ins3 (b y0 y1 : Int) (h : y0 ≤ y1) : ∃ z0 z1 z2, insI b [y0, y1] = [z0, z1, z2] ∧ z0 ≤ z1 ∧ z1 ≤ z2 ∧ ((b = z0 ∧ y0 = z1 ∧ y1 = z2) ∨ (b = z1 ∧ y0 = z0 ∧ y1 = z2) ∨ (b = z2 ∧ y0 = z0 ∧ y1 = z1)) := by
  simp only [insI]
  split
  · exact ⟨b, y0, y1, rfl, by omega, by omega, by omega⟩
  · split
    · exact ⟨y0, b, y1, rfl, by omega, by omega, by omega⟩
    · exact ⟨y0, y1, b, rfl, by omega, by omega, by omega⟩
theorem sort4 (a b c d : Int) : ∃ x0 x1 x2 x3, sortI [a, b, c, d] = [x0, x1, x2, x3] ∧ Srt a b c d x0 x1 x2 x3 := by
  obtain ⟨y0, y1, e2, h2, q2⟩ := sort2 c d
  obtain ⟨z0, z1, z2, e3, h3, h3', q3⟩ := ins3 b y0 y1 h2
  have e : sortI [a, b, c, d] = insI a [z0, z1, z2] := by
    show insI a (insI b (sortI [c, d])) = _
    rw [e2, e3]
  rw [e]
  simp only [insI]
  split
  · exact ⟨a, z0, z1, z2, rfl, by omega, by omega, by omega, by omega, by omega, by omega⟩
  · split
    · exact ⟨z0, a, z1, z2, rfl, by omega, by omega, by omega, by omega, by omega, by omega⟩
    · split
      · exact ⟨z0, z1, a, z2, rfl, by omega, by omega, by omega, by omega, by omega, by omega⟩
      · exact ⟨z0, z1, z2, a, rfl, by omega, by omega, by omega, by omega, by omega, by omega⟩
/-! ### a ring is drawn -/
structure IsR (a b c d : Int) : Prop where
  a1 : 1 ≤ a
  a2 : a ≤ 50
  b1 : 1 ≤ b
  b2 : b ≤ 50
  c1 : 1 ≤ c
  c2 : c ≤ 50
  d1 : 1 ≤ d
  d2 : d ≤ 50
  ca : a < b + c + d
  cb : b < a + c + d
  cc : c < a + b + d
  cd : d < a + b + c
theorem sx0 : HT.sIx 4 0 (some 0) = 0 := rfl
theorem sx1 : HT.sIx 4 0 (some 1) = 1 := rfl
theorem sx2 : HT.sIx 4 0 (some 2) = 2 := rfl
theorem sx3 : HT.sIx 4 0 (some 3) = 3 := rfl
theorem sxn : HT.sIx 4 0 none = 0 := rfl
theorem sy0 : HT.sIx 4 4 (some 0) = 0 := rfl
theorem sy1 : HT.sIx 4 4 (some 1) = 1 := rfl
theorem sy2 : HT.sIx 4 4 (some 2) = 2 := rfl
theorem sy3 : HT.sIx 4 4 (some 3) = 3 := rfl
theorem syn : HT.sIx 4 4 none = 4 := rfl
/-- the end of _law_ring: a ring is turned -/
theorem ring_2 {ns : List Int} {S : Store} {k : Nat} {o : MO} {n a b c d : Int} {e2 e3 e4 e5 e6 e8 e9 e10 e11 : Option W} (hS : S[k]? = some o) (ho : Town ns n o) (hn0 : 0 ≤ n) (hn : n < 1000000) (h : IsR a b c d) :
    ∃ p q r s o', IsR p q r s ∧ Town ns (n + 1) o' ∧ b_law_ring_2 [some (.scr ns), some (.mt k), e2, e3, e4, e5, e6, some (t4 a b c d), e8, e9, e10, e11] S = .ok (.rt (t4 p q r s)) (S.set k o') := by
  obtain ⟨x, o1, hx0, hx1, ho1, ed⟩ := draw_spec (limit := 4) hS ho hn0 hn (by omega) (by omega)
  obtain ⟨h1, h2, h3, h4, h5, h6, h7, h8, h9, h10, h11, h12⟩ := h
  have hx : x = 0 ∨ x = 1 ∨ x = 2 ∨ x = 3 := by omega
  rcases hx with rfl | rfl | rfl | rfl
  · exact ⟨a, b, c, d, o1, by constructor <;> omega, ho1, by simp [b_law_ring_2, Iv.eVar, Iv.eC, Iv.eOp, Iv.eUn, Iv.aNil, Iv.aCons, Iv.eCall, Iv.eTup, Iv.eLst, Iv.eNew, Iv.eAnd, Iv.eOr, Iv.wNot, Iv.bVal, Iv.bAnd, Iv.bOr, Iv.bNot, Iv.eIf, Iv.eChain, Iv.mkTup, Iv.mkLst, Iv.mkNew, Iv.wAdd, Iv.wSub, Iv.wMul, Iv.wFdiv, Iv.wMod, Iv.wPow, Iv.wNeg, Iv.wEq, Iv.wNe, Iv.wLt, Iv.wLe, Iv.wGt, Iv.wGe, Iv.wIs, Iv.wIsNot, Iv.isFlat, Iv.inW, Iv.wIn, Iv.wNotIn, Iv.wIx, Iv.dat, Iv.datL, Iv.datS, Iv.listOf, Iv.seqOf, Iv.stillOf, Iv.oNo, Iv.oSome, Iv.cutW, Iv.wSl, Iv.eSl, Iv.gNm, Iv.gsNil, Iv.gsCons, Iv.gTu, Iv.setAt, Iv.gIx, Iv.sNext, Iv.sSeq, Iv.sIf, Iv.sRet, Iv.sEx, Iv.sAsg, Iv.sRaise, Iv.sBreak, Iv.sCont, Iv.iSeq, Iv.iRg, Iv.iRg2, Iv.forF, Iv.sFor, Iv.gUl, Iv.sPr, Iv.sPr3, Iv.wipeE, Iv.bYes, Iv.lcF, Iv.eLc, Iv.okW, Iv.okWs, Iv.okO, Iv.frzW, Iv.frzWs, Iv.fin, Iv.finX, Iv.finN, Iv.start0, Iv.runF, Iv.runN, Iv.eFn, Iv.bSum, Iv.bSorted, Iv.bLen, Iv.bAbs, Iv.bTuple, Iv.bList, Iv.bListN, Iv.blsOf, Iv.bAll, Iv.bAny, Iv.bInt, Iv.bIsi, Iv.isi, Iv.wRev, Iv.eLm, Iv.mAppend, Iv.mPop, Iv.mPopAt, Iv.lc2F, Iv.eLc2, Iv.Res.bind, Iv.rangeW, Iv.wAddN, Iv.shut_eq, Iv.iZp, Iv.zipW, ed, sx0, sy0, sxn, syn]⟩
  · exact ⟨b, c, d, a, o1, by constructor <;> omega, ho1, by simp [b_law_ring_2, Iv.eVar, Iv.eC, Iv.eOp, Iv.eUn, Iv.aNil, Iv.aCons, Iv.eCall, Iv.eTup, Iv.eLst, Iv.eNew, Iv.eAnd, Iv.eOr, Iv.wNot, Iv.bVal, Iv.bAnd, Iv.bOr, Iv.bNot, Iv.eIf, Iv.eChain, Iv.mkTup, Iv.mkLst, Iv.mkNew, Iv.wAdd, Iv.wSub, Iv.wMul, Iv.wFdiv, Iv.wMod, Iv.wPow, Iv.wNeg, Iv.wEq, Iv.wNe, Iv.wLt, Iv.wLe, Iv.wGt, Iv.wGe, Iv.wIs, Iv.wIsNot, Iv.isFlat, Iv.inW, Iv.wIn, Iv.wNotIn, Iv.wIx, Iv.dat, Iv.datL, Iv.datS, Iv.listOf, Iv.seqOf, Iv.stillOf, Iv.oNo, Iv.oSome, Iv.cutW, Iv.wSl, Iv.eSl, Iv.gNm, Iv.gsNil, Iv.gsCons, Iv.gTu, Iv.setAt, Iv.gIx, Iv.sNext, Iv.sSeq, Iv.sIf, Iv.sRet, Iv.sEx, Iv.sAsg, Iv.sRaise, Iv.sBreak, Iv.sCont, Iv.iSeq, Iv.iRg, Iv.iRg2, Iv.forF, Iv.sFor, Iv.gUl, Iv.sPr, Iv.sPr3, Iv.wipeE, Iv.bYes, Iv.lcF, Iv.eLc, Iv.okW, Iv.okWs, Iv.okO, Iv.frzW, Iv.frzWs, Iv.fin, Iv.finX, Iv.finN, Iv.start0, Iv.runF, Iv.runN, Iv.eFn, Iv.bSum, Iv.bSorted, Iv.bLen, Iv.bAbs, Iv.bTuple, Iv.bList, Iv.bListN, Iv.blsOf, Iv.bAll, Iv.bAny, Iv.bInt, Iv.bIsi, Iv.isi, Iv.wRev, Iv.eLm, Iv.mAppend, Iv.mPop, Iv.mPopAt, Iv.lc2F, Iv.eLc2, Iv.Res.bind, Iv.rangeW, Iv.wAddN, Iv.shut_eq, Iv.iZp, Iv.zipW, ed, sx1, sy1, sxn, syn]⟩
  · exact ⟨c, d, a, b, o1, by constructor <;> omega, ho1, by simp [b_law_ring_2, Iv.eVar, Iv.eC, Iv.eOp, Iv.eUn, Iv.aNil, Iv.aCons, Iv.eCall, Iv.eTup, Iv.eLst, Iv.eNew, Iv.eAnd, Iv.eOr, Iv.wNot, Iv.bVal, Iv.bAnd, Iv.bOr, Iv.bNot, Iv.eIf, Iv.eChain, Iv.mkTup, Iv.mkLst, Iv.mkNew, Iv.wAdd, Iv.wSub, Iv.wMul, Iv.wFdiv, Iv.wMod, Iv.wPow, Iv.wNeg, Iv.wEq, Iv.wNe, Iv.wLt, Iv.wLe, Iv.wGt, Iv.wGe, Iv.wIs, Iv.wIsNot, Iv.isFlat, Iv.inW, Iv.wIn, Iv.wNotIn, Iv.wIx, Iv.dat, Iv.datL, Iv.datS, Iv.listOf, Iv.seqOf, Iv.stillOf, Iv.oNo, Iv.oSome, Iv.cutW, Iv.wSl, Iv.eSl, Iv.gNm, Iv.gsNil, Iv.gsCons, Iv.gTu, Iv.setAt, Iv.gIx, Iv.sNext, Iv.sSeq, Iv.sIf, Iv.sRet, Iv.sEx, Iv.sAsg, Iv.sRaise, Iv.sBreak, Iv.sCont, Iv.iSeq, Iv.iRg, Iv.iRg2, Iv.forF, Iv.sFor, Iv.gUl, Iv.sPr, Iv.sPr3, Iv.wipeE, Iv.bYes, Iv.lcF, Iv.eLc, Iv.okW, Iv.okWs, Iv.okO, Iv.frzW, Iv.frzWs, Iv.fin, Iv.finX, Iv.finN, Iv.start0, Iv.runF, Iv.runN, Iv.eFn, Iv.bSum, Iv.bSorted, Iv.bLen, Iv.bAbs, Iv.bTuple, Iv.bList, Iv.bListN, Iv.blsOf, Iv.bAll, Iv.bAny, Iv.bInt, Iv.bIsi, Iv.isi, Iv.wRev, Iv.eLm, Iv.mAppend, Iv.mPop, Iv.mPopAt, Iv.lc2F, Iv.eLc2, Iv.Res.bind, Iv.rangeW, Iv.wAddN, Iv.shut_eq, Iv.iZp, Iv.zipW, ed, sx2, sy2, sxn, syn]⟩
  · exact ⟨d, a, b, c, o1, by constructor <;> omega, ho1, by simp [b_law_ring_2, Iv.eVar, Iv.eC, Iv.eOp, Iv.eUn, Iv.aNil, Iv.aCons, Iv.eCall, Iv.eTup, Iv.eLst, Iv.eNew, Iv.eAnd, Iv.eOr, Iv.wNot, Iv.bVal, Iv.bAnd, Iv.bOr, Iv.bNot, Iv.eIf, Iv.eChain, Iv.mkTup, Iv.mkLst, Iv.mkNew, Iv.wAdd, Iv.wSub, Iv.wMul, Iv.wFdiv, Iv.wMod, Iv.wPow, Iv.wNeg, Iv.wEq, Iv.wNe, Iv.wLt, Iv.wLe, Iv.wGt, Iv.wGe, Iv.wIs, Iv.wIsNot, Iv.isFlat, Iv.inW, Iv.wIn, Iv.wNotIn, Iv.wIx, Iv.dat, Iv.datL, Iv.datS, Iv.listOf, Iv.seqOf, Iv.stillOf, Iv.oNo, Iv.oSome, Iv.cutW, Iv.wSl, Iv.eSl, Iv.gNm, Iv.gsNil, Iv.gsCons, Iv.gTu, Iv.setAt, Iv.gIx, Iv.sNext, Iv.sSeq, Iv.sIf, Iv.sRet, Iv.sEx, Iv.sAsg, Iv.sRaise, Iv.sBreak, Iv.sCont, Iv.iSeq, Iv.iRg, Iv.iRg2, Iv.forF, Iv.sFor, Iv.gUl, Iv.sPr, Iv.sPr3, Iv.wipeE, Iv.bYes, Iv.lcF, Iv.eLc, Iv.okW, Iv.okWs, Iv.okO, Iv.frzW, Iv.frzWs, Iv.fin, Iv.finX, Iv.finN, Iv.start0, Iv.runF, Iv.runN, Iv.eFn, Iv.bSum, Iv.bSorted, Iv.bLen, Iv.bAbs, Iv.bTuple, Iv.bList, Iv.bListN, Iv.blsOf, Iv.bAll, Iv.bAny, Iv.bInt, Iv.bIsi, Iv.isi, Iv.wRev, Iv.eLm, Iv.mAppend, Iv.mPop, Iv.mPopAt, Iv.lc2F, Iv.eLc2, Iv.Res.bind, Iv.rangeW, Iv.wAddN, Iv.shut_eq, Iv.iZp, Iv.zipW, ed, sx3, sy3, sxn, syn]⟩
theorem ring_3 {ns : List Int} {S : Store} {k : Nat} {o : MO} {n a b c d : Int} {e2 e3 e4 e5 e6 e8 e9 e10 e11 : Option W} (hS : S[k]? = some o) (ho : Town ns n o) (hn0 : 0 ≤ n) (hn : n < 1000000) (h1 : 1 ≤ a) (h2 : a ≤ 50) (h3 : 1 ≤ b) (h4 : b ≤ 50) (h5 : 1 ≤ c) (h6 : c ≤ 50) (h7 : 1 ≤ d) (h8 : d ≤ 50) :
    ∃ p q r s o', IsR p q r s ∧ Town ns (n + 1) o' ∧ b_law_ring_3 [some (.scr ns), some (.mt k), e2, e3, e4, e5, e6, some (t4 a b c d), e8, e9, e10, e11] S = .ok (.rt (t4 p q r s)) (S.set k o') := by
  by_cases hc : cl4 a b c d = true
  · have hc' := hc
    unfold cl4 at hc'
    rw [decide_eq_true_eq] at hc'
    obtain ⟨p, q, r, s, o', g1, g2, g3⟩ := ring_2 (e2 := e2) (e3 := e3) (e4 := e4) (e5 := e5) (e6 := e6) (e8 := e8) (e9 := e9) (e10 := e10) (e11 := e11) hS ho hn0 hn (⟨h1, h2, h3, h4, h5, h6, h7, h8, by omega, by omega, by omega, by omega⟩ : IsR a b c d)
    exact ⟨p, q, r, s, o', g1, g2, by simp [b_law_ring_3, Iv.eVar, Iv.eC, Iv.eOp, Iv.eUn, Iv.aNil, Iv.aCons, Iv.eCall, Iv.eTup, Iv.eLst, Iv.eNew, Iv.eAnd, Iv.eOr, Iv.wNot, Iv.bVal, Iv.bAnd, Iv.bOr, Iv.bNot, Iv.eIf, Iv.eChain, Iv.mkTup, Iv.mkLst, Iv.mkNew, Iv.wAdd, Iv.wSub, Iv.wMul, Iv.wFdiv, Iv.wMod, Iv.wPow, Iv.wNeg, Iv.wEq, Iv.wNe, Iv.wLt, Iv.wLe, Iv.wGt, Iv.wGe, Iv.wIs, Iv.wIsNot, Iv.isFlat, Iv.inW, Iv.wIn, Iv.wNotIn, Iv.wIx, Iv.dat, Iv.datL, Iv.datS, Iv.listOf, Iv.seqOf, Iv.stillOf, Iv.oNo, Iv.oSome, Iv.cutW, Iv.wSl, Iv.eSl, Iv.gNm, Iv.gsNil, Iv.gsCons, Iv.gTu, Iv.setAt, Iv.gIx, Iv.sNext, Iv.sSeq, Iv.sIf, Iv.sRet, Iv.sEx, Iv.sAsg, Iv.sRaise, Iv.sBreak, Iv.sCont, Iv.iSeq, Iv.iRg, Iv.iRg2, Iv.forF, Iv.sFor, Iv.gUl, Iv.sPr, Iv.sPr3, Iv.wipeE, Iv.bYes, Iv.lcF, Iv.eLc, Iv.okW, Iv.okWs, Iv.okO, Iv.frzW, Iv.frzWs, Iv.fin, Iv.finX, Iv.finN, Iv.start0, Iv.runF, Iv.runN, Iv.eFn, Iv.bSum, Iv.bSorted, Iv.bLen, Iv.bAbs, Iv.bTuple, Iv.bList, Iv.bListN, Iv.blsOf, Iv.bAll, Iv.bAny, Iv.bInt, Iv.bIsi, Iv.isi, Iv.wRev, Iv.eLm, Iv.mAppend, Iv.mPop, Iv.mPopAt, Iv.lc2F, Iv.eLc2, Iv.Res.bind, Iv.rangeW, Iv.wAddN, Iv.shut_eq, Iv.iZp, Iv.zipW, closes_spec, hc, g3]⟩
  · have hc' : cl4 a b c d = false := by simpa using hc
    obtain ⟨x0, x1, x2, x3, es, hs⟩ := sort4 a b c d
    unfold cl4 at hc
    rw [decide_eq_true_eq] at hc
    obtain ⟨s1, s2, s3, s4, s5, s6⟩ := hs
    have hI : IsR (if x2 < a then x2 else a) (if x2 < b then x2 else b) (if x2 < c then x2 else c) (if x2 < d then x2 else d) := by
      constructor <;> (repeat' split) <;> omega
    obtain ⟨p, q, r, s, o', g1, g2, g3⟩ := ring_2 (e2 := e2) (e3 := e3) (e4 := e4) (e5 := e5) (e6 := e6) (e8 := some (.int x2)) (e9 := e9) (e10 := e10) (e11 := e11) hS ho hn0 hn hI
    exact ⟨p, q, r, s, o', g1, g2, by simp [b_law_ring_3, b_law_ring_1, Iv.eVar, Iv.eC, Iv.eOp, Iv.eUn, Iv.aNil, Iv.aCons, Iv.eCall, Iv.eTup, Iv.eLst, Iv.eNew, Iv.eAnd, Iv.eOr, Iv.wNot, Iv.bVal, Iv.bAnd, Iv.bOr, Iv.bNot, Iv.eIf, Iv.eChain, Iv.mkTup, Iv.mkLst, Iv.mkNew, Iv.wAdd, Iv.wSub, Iv.wMul, Iv.wFdiv, Iv.wMod, Iv.wPow, Iv.wNeg, Iv.wEq, Iv.wNe, Iv.wLt, Iv.wLe, Iv.wGt, Iv.wGe, Iv.wIs, Iv.wIsNot, Iv.isFlat, Iv.inW, Iv.wIn, Iv.wNotIn, Iv.wIx, Iv.dat, Iv.datL, Iv.datS, Iv.listOf, Iv.seqOf, Iv.stillOf, Iv.oNo, Iv.oSome, Iv.cutW, Iv.wSl, Iv.eSl, Iv.gNm, Iv.gsNil, Iv.gsCons, Iv.gTu, Iv.setAt, Iv.gIx, Iv.sNext, Iv.sSeq, Iv.sIf, Iv.sRet, Iv.sEx, Iv.sAsg, Iv.sRaise, Iv.sBreak, Iv.sCont, Iv.iSeq, Iv.iRg, Iv.iRg2, Iv.forF, Iv.sFor, Iv.gUl, Iv.sPr, Iv.sPr3, Iv.wipeE, Iv.bYes, Iv.lcF, Iv.eLc, Iv.okW, Iv.okWs, Iv.okO, Iv.frzW, Iv.frzWs, Iv.fin, Iv.finX, Iv.finN, Iv.start0, Iv.runF, Iv.runN, Iv.eFn, Iv.bSum, Iv.bSorted, Iv.bLen, Iv.bAbs, Iv.bTuple, Iv.bList, Iv.bListN, Iv.blsOf, Iv.bAll, Iv.bAny, Iv.bInt, Iv.bIsi, Iv.isi, Iv.wRev, Iv.eLm, Iv.mAppend, Iv.mPop, Iv.mPopAt, Iv.lc2F, Iv.eLc2, Iv.Res.bind, Iv.rangeW, Iv.wAddN, Iv.shut_eq, Iv.iZp, Iv.zipW, closes_spec, hc', intsOf, es, L2.atI, ixN, bMin, g3]⟩
theorem ring_4 {ns : List Int} {S : Store} {k : Nat} {o : MO} {n a b c d : Int} {e2 e3 e4 e5 e6 e8 e9 e10 e11 : Option W} (hS : S[k]? = some o) (ho : Town ns n o) (hn0 : 0 ≤ n) (hn : n < 1000000) (h1 : 1 ≤ a) (h3 : 1 ≤ b) (h5 : 1 ≤ c) (h7 : 1 ≤ d) :
    ∃ p q r s o', IsR p q r s ∧ Town ns (n + 1) o' ∧ b_law_ring_4 [some (.scr ns), some (.mt k), e2, e3, e4, e5, e6, some (t4 a b c d), e8, e9, e10, e11] S = .ok (.rt (t4 p q r s)) (S.set k o') := by
  obtain ⟨p, q, r, s, o', g1, g2, g3⟩ := ring_3 (a := if a < 50 then a else 50) (b := if b < 50 then b else 50) (c := if c < 50 then c else 50) (d := if d < 50 then d else 50) (e2 := e2) (e3 := e3) (e4 := e4) (e5 := e5) (e6 := e6) (e8 := e8) (e9 := e9) (e10 := e10) (e11 := e11) hS ho hn0 hn (by split <;> omega) (by split <;> omega) (by split <;> omega) (by split <;> omega) (by split <;> omega) (by split <;> omega) (by split <;> omega) (by split <;> omega)
  exact ⟨p, q, r, s, o', g1, g2, by simp [b_law_ring_4, Iv.eVar, Iv.eC, Iv.eOp, Iv.eUn, Iv.aNil, Iv.aCons, Iv.eCall, Iv.eTup, Iv.eLst, Iv.eNew, Iv.eAnd, Iv.eOr, Iv.wNot, Iv.bVal, Iv.bAnd, Iv.bOr, Iv.bNot, Iv.eIf, Iv.eChain, Iv.mkTup, Iv.mkLst, Iv.mkNew, Iv.wAdd, Iv.wSub, Iv.wMul, Iv.wFdiv, Iv.wMod, Iv.wPow, Iv.wNeg, Iv.wEq, Iv.wNe, Iv.wLt, Iv.wLe, Iv.wGt, Iv.wGe, Iv.wIs, Iv.wIsNot, Iv.isFlat, Iv.inW, Iv.wIn, Iv.wNotIn, Iv.wIx, Iv.dat, Iv.datL, Iv.datS, Iv.listOf, Iv.seqOf, Iv.stillOf, Iv.oNo, Iv.oSome, Iv.cutW, Iv.wSl, Iv.eSl, Iv.gNm, Iv.gsNil, Iv.gsCons, Iv.gTu, Iv.setAt, Iv.gIx, Iv.sNext, Iv.sSeq, Iv.sIf, Iv.sRet, Iv.sEx, Iv.sAsg, Iv.sRaise, Iv.sBreak, Iv.sCont, Iv.iSeq, Iv.iRg, Iv.iRg2, Iv.forF, Iv.sFor, Iv.gUl, Iv.sPr, Iv.sPr3, Iv.wipeE, Iv.bYes, Iv.lcF, Iv.eLc, Iv.okW, Iv.okWs, Iv.okO, Iv.frzW, Iv.frzWs, Iv.fin, Iv.finX, Iv.finN, Iv.start0, Iv.runF, Iv.runN, Iv.eFn, Iv.bSum, Iv.bSorted, Iv.bLen, Iv.bAbs, Iv.bTuple, Iv.bList, Iv.bListN, Iv.blsOf, Iv.bAll, Iv.bAny, Iv.bInt, Iv.bIsi, Iv.isi, Iv.wRev, Iv.eLm, Iv.mAppend, Iv.mPop, Iv.mPopAt, Iv.lc2F, Iv.eLc2, Iv.Res.bind, Iv.rangeW, Iv.wAddN, Iv.shut_eq, Iv.iZp, Iv.zipW, bMin, g3]⟩
theorem ring_5 {ns : List Int} {S : Store} {k : Nat} {o : MO} {n most a b c way : Int} {e7 e8 e9 e10 e11 : Option W} (hS : S[k]? = some o) (ho : Town ns n o) (hn0 : 0 ≤ n) (hn : n + 1 < 1000000) (hm : 1 ≤ most) (hm2 : most ≤ 50) (h1 : 1 ≤ a) (h3 : 1 ≤ b) (h5 : 1 ≤ c) :
    ∃ p q r s n' o', IsR p q r s ∧ n < n' ∧ n' ≤ n + 2 ∧ Town ns n' o' ∧ b_law_ring_5 [some (.scr ns), some (.mt k), some (.int most), some (.int a), some (.int b), some (.int c), some (.int way), e7, e8, e9, e10, e11] S = .ok (.rt (t4 p q r s)) (S.set k o') := by
  have e0 : ∀ i : Int, SeqAt.shaped (.int i) = true := fun _ => rfl
  by_cases w0 : way = 0
  · subst w0
    obtain ⟨p, q, r, s, o', g1, g2, g3⟩ := ring_4 (a := a) (b := b) (c := a) (d := b) (e2 := some (.int most)) (e3 := some (.int a)) (e4 := some (.int b)) (e5 := some (.int c)) (e6 := some (.int 0)) (e8 := e8) (e9 := e9) (e10 := e10) (e11 := e11) hS ho hn0 (by omega) h1 h3 h1 h3
    exact ⟨p, q, r, s, n + 1, o', g1, by omega, by omega, g2, by simp [b_law_ring_5, Iv.eVar, Iv.eC, Iv.eOp, Iv.eUn, Iv.aNil, Iv.aCons, Iv.eCall, Iv.eTup, Iv.eLst, Iv.eNew, Iv.eAnd, Iv.eOr, Iv.wNot, Iv.bVal, Iv.bAnd, Iv.bOr, Iv.bNot, Iv.eIf, Iv.eChain, Iv.mkTup, Iv.mkLst, Iv.mkNew, Iv.wAdd, Iv.wSub, Iv.wMul, Iv.wFdiv, Iv.wMod, Iv.wPow, Iv.wNeg, Iv.wEq, Iv.wNe, Iv.wLt, Iv.wLe, Iv.wGt, Iv.wGe, Iv.wIs, Iv.wIsNot, Iv.isFlat, Iv.inW, Iv.wIn, Iv.wNotIn, Iv.wIx, Iv.dat, Iv.datL, Iv.datS, Iv.listOf, Iv.seqOf, Iv.stillOf, Iv.oNo, Iv.oSome, Iv.cutW, Iv.wSl, Iv.eSl, Iv.gNm, Iv.gsNil, Iv.gsCons, Iv.gTu, Iv.setAt, Iv.gIx, Iv.sNext, Iv.sSeq, Iv.sIf, Iv.sRet, Iv.sEx, Iv.sAsg, Iv.sRaise, Iv.sBreak, Iv.sCont, Iv.iSeq, Iv.iRg, Iv.iRg2, Iv.forF, Iv.sFor, Iv.gUl, Iv.sPr, Iv.sPr3, Iv.wipeE, Iv.bYes, Iv.lcF, Iv.eLc, Iv.okW, Iv.okWs, Iv.okO, Iv.frzW, Iv.frzWs, Iv.fin, Iv.finX, Iv.finN, Iv.start0, Iv.runF, Iv.runN, Iv.eFn, Iv.bSum, Iv.bSorted, Iv.bLen, Iv.bAbs, Iv.bTuple, Iv.bList, Iv.bListN, Iv.blsOf, Iv.bAll, Iv.bAny, Iv.bInt, Iv.bIsi, Iv.isi, Iv.wRev, Iv.eLm, Iv.mAppend, Iv.mPop, Iv.mPopAt, Iv.lc2F, Iv.eLc2, Iv.Res.bind, Iv.rangeW, Iv.wAddN, Iv.shut_eq, Iv.iZp, Iv.zipW, e0, PyData.eqv, g3]⟩
  by_cases w1 : way = 1
  · subst w1
    obtain ⟨p, q, r, s, o', g1, g2, g3⟩ := ring_4 (a := a) (b := a) (c := b) (d := b) (e2 := some (.int most)) (e3 := some (.int a)) (e4 := some (.int b)) (e5 := some (.int c)) (e6 := some (.int 1)) (e8 := e8) (e9 := e9) (e10 := e10) (e11 := e11) hS ho hn0 (by omega) h1 h1 h3 h3
    exact ⟨p, q, r, s, n + 1, o', g1, by omega, by omega, g2, by simp [b_law_ring_5, Iv.eVar, Iv.eC, Iv.eOp, Iv.eUn, Iv.aNil, Iv.aCons, Iv.eCall, Iv.eTup, Iv.eLst, Iv.eNew, Iv.eAnd, Iv.eOr, Iv.wNot, Iv.bVal, Iv.bAnd, Iv.bOr, Iv.bNot, Iv.eIf, Iv.eChain, Iv.mkTup, Iv.mkLst, Iv.mkNew, Iv.wAdd, Iv.wSub, Iv.wMul, Iv.wFdiv, Iv.wMod, Iv.wPow, Iv.wNeg, Iv.wEq, Iv.wNe, Iv.wLt, Iv.wLe, Iv.wGt, Iv.wGe, Iv.wIs, Iv.wIsNot, Iv.isFlat, Iv.inW, Iv.wIn, Iv.wNotIn, Iv.wIx, Iv.dat, Iv.datL, Iv.datS, Iv.listOf, Iv.seqOf, Iv.stillOf, Iv.oNo, Iv.oSome, Iv.cutW, Iv.wSl, Iv.eSl, Iv.gNm, Iv.gsNil, Iv.gsCons, Iv.gTu, Iv.setAt, Iv.gIx, Iv.sNext, Iv.sSeq, Iv.sIf, Iv.sRet, Iv.sEx, Iv.sAsg, Iv.sRaise, Iv.sBreak, Iv.sCont, Iv.iSeq, Iv.iRg, Iv.iRg2, Iv.forF, Iv.sFor, Iv.gUl, Iv.sPr, Iv.sPr3, Iv.wipeE, Iv.bYes, Iv.lcF, Iv.eLc, Iv.okW, Iv.okWs, Iv.okO, Iv.frzW, Iv.frzWs, Iv.fin, Iv.finX, Iv.finN, Iv.start0, Iv.runF, Iv.runN, Iv.eFn, Iv.bSum, Iv.bSorted, Iv.bLen, Iv.bAbs, Iv.bTuple, Iv.bList, Iv.bListN, Iv.blsOf, Iv.bAll, Iv.bAny, Iv.bInt, Iv.bIsi, Iv.isi, Iv.wRev, Iv.eLm, Iv.mAppend, Iv.mPop, Iv.mPopAt, Iv.lc2F, Iv.eLc2, Iv.Res.bind, Iv.rangeW, Iv.wAddN, Iv.shut_eq, Iv.iZp, Iv.zipW, e0, PyData.eqv, g3]⟩
  by_cases w2 : way = 2
  · subst w2
    obtain ⟨p, q, r, s, o', g1, g2, g3⟩ := ring_4 (a := a) (b := b) (c := c) (d := if 1 < a + b - c then a + b - c else 1) (e2 := some (.int most)) (e3 := some (.int a)) (e4 := some (.int b)) (e5 := some (.int c)) (e6 := some (.int 2)) (e8 := e8) (e9 := e9) (e10 := e10) (e11 := e11) hS ho hn0 (by omega) h1 h3 h5 (by split <;> omega)
    exact ⟨p, q, r, s, n + 1, o', g1, by omega, by omega, g2, by simp [b_law_ring_5, Iv.eVar, Iv.eC, Iv.eOp, Iv.eUn, Iv.aNil, Iv.aCons, Iv.eCall, Iv.eTup, Iv.eLst, Iv.eNew, Iv.eAnd, Iv.eOr, Iv.wNot, Iv.bVal, Iv.bAnd, Iv.bOr, Iv.bNot, Iv.eIf, Iv.eChain, Iv.mkTup, Iv.mkLst, Iv.mkNew, Iv.wAdd, Iv.wSub, Iv.wMul, Iv.wFdiv, Iv.wMod, Iv.wPow, Iv.wNeg, Iv.wEq, Iv.wNe, Iv.wLt, Iv.wLe, Iv.wGt, Iv.wGe, Iv.wIs, Iv.wIsNot, Iv.isFlat, Iv.inW, Iv.wIn, Iv.wNotIn, Iv.wIx, Iv.dat, Iv.datL, Iv.datS, Iv.listOf, Iv.seqOf, Iv.stillOf, Iv.oNo, Iv.oSome, Iv.cutW, Iv.wSl, Iv.eSl, Iv.gNm, Iv.gsNil, Iv.gsCons, Iv.gTu, Iv.setAt, Iv.gIx, Iv.sNext, Iv.sSeq, Iv.sIf, Iv.sRet, Iv.sEx, Iv.sAsg, Iv.sRaise, Iv.sBreak, Iv.sCont, Iv.iSeq, Iv.iRg, Iv.iRg2, Iv.forF, Iv.sFor, Iv.gUl, Iv.sPr, Iv.sPr3, Iv.wipeE, Iv.bYes, Iv.lcF, Iv.eLc, Iv.okW, Iv.okWs, Iv.okO, Iv.frzW, Iv.frzWs, Iv.fin, Iv.finX, Iv.finN, Iv.start0, Iv.runF, Iv.runN, Iv.eFn, Iv.bSum, Iv.bSorted, Iv.bLen, Iv.bAbs, Iv.bTuple, Iv.bList, Iv.bListN, Iv.blsOf, Iv.bAll, Iv.bAny, Iv.bInt, Iv.bIsi, Iv.isi, Iv.wRev, Iv.eLm, Iv.mAppend, Iv.mPop, Iv.mPopAt, Iv.lc2F, Iv.eLc2, Iv.Res.bind, Iv.rangeW, Iv.wAddN, Iv.shut_eq, Iv.iZp, Iv.zipW, e0, PyData.eqv, bMax, g3]⟩
  · obtain ⟨x, o1, hx0, hx1, ho1, ed⟩ := draw_spec (limit := most) hS ho hn0 (by omega) (by omega) (by omega)
    have hS1 : (S.set k o1)[k]? = some o1 := List.getElem?_set_self (List.getElem?_eq_some_iff.mp hS).1
    obtain ⟨p, q, r, s, o', g1, g2, g3⟩ := ring_4 (a := a) (b := b) (c := c) (d := 1 + x) (e2 := some (.int most)) (e3 := some (.int a)) (e4 := some (.int b)) (e5 := some (.int c)) (e6 := some (.int way)) (e8 := e8) (e9 := e9) (e10 := e10) (e11 := e11) hS1 ho1 (by omega) (by omega) h1 h3 h5 (by omega)
    exact ⟨p, q, r, s, n + 1 + 1, o', g1, by omega, by omega, g2, by simp [b_law_ring_5, Iv.eVar, Iv.eC, Iv.eOp, Iv.eUn, Iv.aNil, Iv.aCons, Iv.eCall, Iv.eTup, Iv.eLst, Iv.eNew, Iv.eAnd, Iv.eOr, Iv.wNot, Iv.bVal, Iv.bAnd, Iv.bOr, Iv.bNot, Iv.eIf, Iv.eChain, Iv.mkTup, Iv.mkLst, Iv.mkNew, Iv.wAdd, Iv.wSub, Iv.wMul, Iv.wFdiv, Iv.wMod, Iv.wPow, Iv.wNeg, Iv.wEq, Iv.wNe, Iv.wLt, Iv.wLe, Iv.wGt, Iv.wGe, Iv.wIs, Iv.wIsNot, Iv.isFlat, Iv.inW, Iv.wIn, Iv.wNotIn, Iv.wIx, Iv.dat, Iv.datL, Iv.datS, Iv.listOf, Iv.seqOf, Iv.stillOf, Iv.oNo, Iv.oSome, Iv.cutW, Iv.wSl, Iv.eSl, Iv.gNm, Iv.gsNil, Iv.gsCons, Iv.gTu, Iv.setAt, Iv.gIx, Iv.sNext, Iv.sSeq, Iv.sIf, Iv.sRet, Iv.sEx, Iv.sAsg, Iv.sRaise, Iv.sBreak, Iv.sCont, Iv.iSeq, Iv.iRg, Iv.iRg2, Iv.forF, Iv.sFor, Iv.gUl, Iv.sPr, Iv.sPr3, Iv.wipeE, Iv.bYes, Iv.lcF, Iv.eLc, Iv.okW, Iv.okWs, Iv.okO, Iv.frzW, Iv.frzWs, Iv.fin, Iv.finX, Iv.finN, Iv.start0, Iv.runF, Iv.runN, Iv.eFn, Iv.bSum, Iv.bSorted, Iv.bLen, Iv.bAbs, Iv.bTuple, Iv.bList, Iv.bListN, Iv.blsOf, Iv.bAll, Iv.bAny, Iv.bInt, Iv.bIsi, Iv.isi, Iv.wRev, Iv.eLm, Iv.mAppend, Iv.mPop, Iv.mPopAt, Iv.lc2F, Iv.eLc2, Iv.Res.bind, Iv.rangeW, Iv.wAddN, Iv.shut_eq, Iv.iZp, Iv.zipW, e0, PyData.eqv, w0, w1, w2, ed, g3]⟩
theorem ring_spec {ns : List Int} {S : Store} {k : Nat} {o : MO} {n most : Int} (hS : S[k]? = some o) (ho : Town ns n o) (hn0 : 0 ≤ n) (hn : n + 10 < 1000000) (hm : 1 ≤ most) (hm2 : most ≤ 50) :
    ∃ p q r s n' o', IsR p q r s ∧ n < n' ∧ n' ≤ n + 6 ∧ Town ns n' o' ∧ F_law_ring [.scr ns, .mt k, .int most] S = .ok (t4 p q r s) (S.set k o') := by
  have hk := (List.getElem?_eq_some_iff.mp hS).1
  obtain ⟨x1, o1, hx1, hy1, ho1, ed1⟩ := draw_spec (limit := most) hS ho hn0 (by omega) (by omega) (by omega)
  have hS1 : (S.set k o1)[k]? = some o1 := List.getElem?_set_self hk
  obtain ⟨x2, o2, hx2, hy2, ho2, ed2⟩ := draw_spec (limit := most) hS1 ho1 (by omega) (by omega) (by omega) (by omega)
  rw [List.set_set] at ed2
  have hS2 : (S.set k o2)[k]? = some o2 := List.getElem?_set_self hk
  obtain ⟨x3, o3, hx3, hy3, ho3, ed3⟩ := draw_spec (limit := most) hS2 ho2 (by omega) (by omega) (by omega) (by omega)
  rw [List.set_set] at ed3
  have hS3 : (S.set k o3)[k]? = some o3 := List.getElem?_set_self hk
  obtain ⟨x4, o4, hx4, hy4, ho4, ed4⟩ := draw_spec (limit := 6) hS3 ho3 (by omega) (by omega) (by omega) (by omega)
  rw [List.set_set] at ed4
  have hS4 : (S.set k o4)[k]? = some o4 := List.getElem?_set_self hk
  obtain ⟨p, q, r, s, n', o', g1, g2, g3, g4, g5⟩ := ring_5 (most := most) (a := 1 + x1) (b := 1 + x2) (c := 1 + x3) (way := x4) (e7 := none) (e8 := none) (e9 := none) (e10 := none) (e11 := none) hS4 ho4 (by omega) (by omega) hm hm2 (by omega) (by omega) (by omega)
  rw [List.set_set] at g5
  refine ⟨p, q, r, s, n', o', g1, by omega, by omega, g4, ?_⟩
  simp [F_law_ring, b_law_ring, b_law_ring_6, Iv.eVar, Iv.eC, Iv.eOp, Iv.eUn, Iv.aNil, Iv.aCons, Iv.eCall, Iv.eTup, Iv.eLst, Iv.eNew, Iv.eAnd, Iv.eOr, Iv.wNot, Iv.bVal, Iv.bAnd, Iv.bOr, Iv.bNot, Iv.eIf, Iv.eChain, Iv.mkTup, Iv.mkLst, Iv.mkNew, Iv.wAdd, Iv.wSub, Iv.wMul, Iv.wFdiv, Iv.wMod, Iv.wPow, Iv.wNeg, Iv.wEq, Iv.wNe, Iv.wLt, Iv.wLe, Iv.wGt, Iv.wGe, Iv.wIs, Iv.wIsNot, Iv.isFlat, Iv.inW, Iv.wIn, Iv.wNotIn, Iv.wIx, Iv.dat, Iv.datL, Iv.datS, Iv.listOf, Iv.seqOf, Iv.stillOf, Iv.oNo, Iv.oSome, Iv.cutW, Iv.wSl, Iv.eSl, Iv.gNm, Iv.gsNil, Iv.gsCons, Iv.gTu, Iv.setAt, Iv.gIx, Iv.sNext, Iv.sSeq, Iv.sIf, Iv.sRet, Iv.sEx, Iv.sAsg, Iv.sRaise, Iv.sBreak, Iv.sCont, Iv.iSeq, Iv.iRg, Iv.iRg2, Iv.forF, Iv.sFor, Iv.gUl, Iv.sPr, Iv.sPr3, Iv.wipeE, Iv.bYes, Iv.lcF, Iv.eLc, Iv.okW, Iv.okWs, Iv.okO, Iv.frzW, Iv.frzWs, Iv.fin, Iv.finX, Iv.finN, Iv.start0, Iv.runF, Iv.runN, Iv.eFn, Iv.bSum, Iv.bSorted, Iv.bLen, Iv.bAbs, Iv.bTuple, Iv.bList, Iv.bListN, Iv.blsOf, Iv.bAll, Iv.bAny, Iv.bInt, Iv.bIsi, Iv.isi, Iv.wRev, Iv.eLm, Iv.mAppend, Iv.mPop, Iv.mPopAt, Iv.lc2F, Iv.eLc2, Iv.Res.bind, Iv.rangeW, Iv.wAddN, Iv.shut_eq, Iv.iZp, Iv.zipW, ed1, ed2, ed3, ed4, g5]
end G
end
section
set_option maxHeartbeats 4000000
set_option maxRecDepth 100000
namespace G
open PySem L2 Iv
/-! ### rings, checks -/
theorem between_int (a lo hi : Int) (S : Store) : F_is_between [.int a, .int lo, .int hi] S = .ok (.bl (decide (lo ≤ a) && decide (a ≤ hi))) S := by
  by_cases h : lo ≤ a <;> simp [F_is_between, b_is_between, Iv.eVar, Iv.eC, Iv.eOp, Iv.eUn, Iv.aNil, Iv.aCons, Iv.eCall, Iv.eTup, Iv.eLst, Iv.eNew, Iv.eAnd, Iv.eOr, Iv.wNot, Iv.bVal, Iv.bAnd, Iv.bOr, Iv.bNot, Iv.eIf, Iv.eChain, Iv.mkTup, Iv.mkLst, Iv.mkNew, Iv.wAdd, Iv.wSub, Iv.wMul, Iv.wFdiv, Iv.wMod, Iv.wPow, Iv.wNeg, Iv.wEq, Iv.wNe, Iv.wLt, Iv.wLe, Iv.wGt, Iv.wGe, Iv.wIs, Iv.wIsNot, Iv.isFlat, Iv.inW, Iv.wIn, Iv.wNotIn, Iv.wIx, Iv.dat, Iv.datL, Iv.datS, Iv.listOf, Iv.seqOf, Iv.stillOf, Iv.oNo, Iv.oSome, Iv.cutW, Iv.wSl, Iv.eSl, Iv.gNm, Iv.gsNil, Iv.gsCons, Iv.gTu, Iv.setAt, Iv.gIx, Iv.sNext, Iv.sSeq, Iv.sIf, Iv.sRet, Iv.sEx, Iv.sAsg, Iv.sRaise, Iv.sBreak, Iv.sCont, Iv.iSeq, Iv.iRg, Iv.iRg2, Iv.forF, Iv.sFor, Iv.gUl, Iv.sPr, Iv.sPr3, Iv.wipeE, Iv.bYes, Iv.lcF, Iv.eLc, Iv.okW, Iv.okWs, Iv.okO, Iv.frzW, Iv.frzWs, Iv.fin, Iv.finX, Iv.finN, Iv.start0, Iv.runF, Iv.runN, Iv.eFn, Iv.bSum, Iv.bSorted, Iv.bLen, Iv.bAbs, Iv.bTuple, Iv.bList, Iv.bListN, Iv.blsOf, Iv.bAll, Iv.bAny, Iv.bInt, Iv.bIsi, Iv.isi, Iv.wRev, Iv.eLm, Iv.mAppend, Iv.mPop, Iv.mPopAt, Iv.lc2F, Iv.eLc2, Iv.Res.bind, Iv.rangeW, Iv.wAddN, Iv.shut_eq, Iv.iZp, Iv.zipW, h]
def mx4 (a b c d : Int) : Int := max (max (max a b) c) d
def mn4 (a b c d : Int) : Int := min (min (min a b) c) d
theorem max4 (a b c d : Int) : bestD true [.int a, .int b, .int c, .int d] = some (.int (mx4 a b c d)) := rfl
theorem min4 (a b c d : Int) : bestD false [.int a, .int b, .int c, .int d] = some (.int (mn4 a b c d)) := rfl
theorem close_spec (a b c d : Int) (S : Store) : F_does_close [t4 a b c d] S = .ok (.bl (cl4 a b c d)) S := by
  have m : mulOk 2 (mx4 a b c d) := .inl (by omega)
  have e : decide (2 * mx4 a b c d < a + (b + (c + d))) = cl4 a b c d := by
    unfold cl4 mx4
    congr 1
    apply propext
    constructor <;> intro h <;> omega
  simp [F_does_close, b_does_close, Iv.eVar, Iv.eC, Iv.eOp, Iv.eUn, Iv.aNil, Iv.aCons, Iv.eCall, Iv.eTup, Iv.eLst, Iv.eNew, Iv.eAnd, Iv.eOr, Iv.wNot, Iv.bVal, Iv.bAnd, Iv.bOr, Iv.bNot, Iv.eIf, Iv.eChain, Iv.mkTup, Iv.mkLst, Iv.mkNew, Iv.wAdd, Iv.wSub, Iv.wMul, Iv.wFdiv, Iv.wMod, Iv.wPow, Iv.wNeg, Iv.wEq, Iv.wNe, Iv.wLt, Iv.wLe, Iv.wGt, Iv.wGe, Iv.wIs, Iv.wIsNot, Iv.isFlat, Iv.inW, Iv.wIn, Iv.wNotIn, Iv.wIx, Iv.dat, Iv.datL, Iv.datS, Iv.listOf, Iv.seqOf, Iv.stillOf, Iv.oNo, Iv.oSome, Iv.cutW, Iv.wSl, Iv.eSl, Iv.gNm, Iv.gsNil, Iv.gsCons, Iv.gTu, Iv.setAt, Iv.gIx, Iv.sNext, Iv.sSeq, Iv.sIf, Iv.sRet, Iv.sEx, Iv.sAsg, Iv.sRaise, Iv.sBreak, Iv.sCont, Iv.iSeq, Iv.iRg, Iv.iRg2, Iv.forF, Iv.sFor, Iv.gUl, Iv.sPr, Iv.sPr3, Iv.wipeE, Iv.bYes, Iv.lcF, Iv.eLc, Iv.okW, Iv.okWs, Iv.okO, Iv.frzW, Iv.frzWs, Iv.fin, Iv.finX, Iv.finN, Iv.start0, Iv.runF, Iv.runN, Iv.eFn, Iv.bSum, Iv.bSorted, Iv.bLen, Iv.bAbs, Iv.bTuple, Iv.bList, Iv.bListN, Iv.blsOf, Iv.bAll, Iv.bAny, Iv.bInt, Iv.bIsi, Iv.isi, Iv.wRev, Iv.eLm, Iv.mAppend, Iv.mPop, Iv.mPopAt, Iv.lc2F, Iv.eLc2, Iv.Res.bind, Iv.rangeW, Iv.wAddN, Iv.shut_eq, Iv.iZp, Iv.zipW, bMax, max4, intsOf, m, e]
def inR (x : Int) : Bool := decide (1 ≤ x) && decide (x ≤ 50)
theorem isring_spec (a b c d : Int) (S : Store) : F_is_ring [t4 a b c d] S = .ok (.bl (inR a && inR b && inR c && inR d && cl4 a b c d)) S := by
  have e0 : ∀ i : Int, SeqAt.shaped (.int i) = true := fun _ => rfl
  have e1 : ∀ x : Int, (decide (1 ≤ x) && decide (x ≤ 50)) = inR x := fun _ => rfl
  cases h1 : inR a <;> cases h2 : inR b <;> cases h3 : inR c <;> cases h4 : inR d <;> simp [F_is_ring, b_is_ring, Iv.eVar, Iv.eC, Iv.eOp, Iv.eUn, Iv.aNil, Iv.aCons, Iv.eCall, Iv.eTup, Iv.eLst, Iv.eNew, Iv.eAnd, Iv.eOr, Iv.wNot, Iv.bVal, Iv.bAnd, Iv.bOr, Iv.bNot, Iv.eIf, Iv.eChain, Iv.mkTup, Iv.mkLst, Iv.mkNew, Iv.wAdd, Iv.wSub, Iv.wMul, Iv.wFdiv, Iv.wMod, Iv.wPow, Iv.wNeg, Iv.wEq, Iv.wNe, Iv.wLt, Iv.wLe, Iv.wGt, Iv.wGe, Iv.wIs, Iv.wIsNot, Iv.isFlat, Iv.inW, Iv.wIn, Iv.wNotIn, Iv.wIx, Iv.dat, Iv.datL, Iv.datS, Iv.listOf, Iv.seqOf, Iv.stillOf, Iv.oNo, Iv.oSome, Iv.cutW, Iv.wSl, Iv.eSl, Iv.gNm, Iv.gsNil, Iv.gsCons, Iv.gTu, Iv.setAt, Iv.gIx, Iv.sNext, Iv.sSeq, Iv.sIf, Iv.sRet, Iv.sEx, Iv.sAsg, Iv.sRaise, Iv.sBreak, Iv.sCont, Iv.iSeq, Iv.iRg, Iv.iRg2, Iv.forF, Iv.sFor, Iv.gUl, Iv.sPr, Iv.sPr3, Iv.wipeE, Iv.bYes, Iv.lcF, Iv.eLc, Iv.okW, Iv.okWs, Iv.okO, Iv.frzW, Iv.frzWs, Iv.fin, Iv.finX, Iv.finN, Iv.start0, Iv.runF, Iv.runN, Iv.eFn, Iv.bSum, Iv.bSorted, Iv.bLen, Iv.bAbs, Iv.bTuple, Iv.bList, Iv.bListN, Iv.blsOf, Iv.bAll, Iv.bAny, Iv.bInt, Iv.bIsi, Iv.isi, Iv.wRev, Iv.eLm, Iv.mAppend, Iv.mPop, Iv.mPopAt, Iv.lc2F, Iv.eLc2, Iv.Res.bind, Iv.rangeW, Iv.wAddN, Iv.shut_eq, Iv.iZp, Iv.zipW, between_int, close_spec, e0, PyData.eqv, e1, h1, h2, h3, h4]
theorem IsR.all {a b c d : Int} (h : IsR a b c d) : inR a = true ∧ inR b = true ∧ inR c = true ∧ inR d = true ∧ cl4 a b c d = true := by
  obtain ⟨h1, h2, h3, h4, h5, h6, h7, h8, h9, h10, h11, h12⟩ := h
  refine ⟨?_, ?_, ?_, ?_, ?_⟩
  · simp [inR, h1, h2]
  · simp [inR, h3, h4]
  · simp [inR, h5, h6]
  · simp [inR, h7, h8]
  · simp [cl4]; omega
theorem isring_ok {a b c d : Int} (h : IsR a b c d) (S : Store) : F_is_ring [t4 a b c d] S = .ok (.bl true) S := by
  obtain ⟨h1, h2, h3, h4, h5⟩ := h.all
  rw [isring_spec, h1, h2, h3, h4, h5]
  rfl
theorem check_ok {a b c d : Int} (h : IsR a b c d) (S : Store) : F_check_ring [t4 a b c d] S = .ok .non S := by
  simp [F_check_ring, b_check_ring, Iv.eVar, Iv.eC, Iv.eOp, Iv.eUn, Iv.aNil, Iv.aCons, Iv.eCall, Iv.eTup, Iv.eLst, Iv.eNew, Iv.eAnd, Iv.eOr, Iv.wNot, Iv.bVal, Iv.bAnd, Iv.bOr, Iv.bNot, Iv.eIf, Iv.eChain, Iv.mkTup, Iv.mkLst, Iv.mkNew, Iv.wAdd, Iv.wSub, Iv.wMul, Iv.wFdiv, Iv.wMod, Iv.wPow, Iv.wNeg, Iv.wEq, Iv.wNe, Iv.wLt, Iv.wLe, Iv.wGt, Iv.wGe, Iv.wIs, Iv.wIsNot, Iv.isFlat, Iv.inW, Iv.wIn, Iv.wNotIn, Iv.wIx, Iv.dat, Iv.datL, Iv.datS, Iv.listOf, Iv.seqOf, Iv.stillOf, Iv.oNo, Iv.oSome, Iv.cutW, Iv.wSl, Iv.eSl, Iv.gNm, Iv.gsNil, Iv.gsCons, Iv.gTu, Iv.setAt, Iv.gIx, Iv.sNext, Iv.sSeq, Iv.sIf, Iv.sRet, Iv.sEx, Iv.sAsg, Iv.sRaise, Iv.sBreak, Iv.sCont, Iv.iSeq, Iv.iRg, Iv.iRg2, Iv.forF, Iv.sFor, Iv.gUl, Iv.sPr, Iv.sPr3, Iv.wipeE, Iv.bYes, Iv.lcF, Iv.eLc, Iv.okW, Iv.okWs, Iv.okO, Iv.frzW, Iv.frzWs, Iv.fin, Iv.finX, Iv.finN, Iv.start0, Iv.runF, Iv.runN, Iv.eFn, Iv.bSum, Iv.bSorted, Iv.bLen, Iv.bAbs, Iv.bTuple, Iv.bList, Iv.bListN, Iv.blsOf, Iv.bAll, Iv.bAny, Iv.bInt, Iv.bIsi, Iv.isi, Iv.wRev, Iv.eLm, Iv.mAppend, Iv.mPop, Iv.mPopAt, Iv.lc2F, Iv.eLc2, Iv.Res.bind, Iv.rangeW, Iv.wAddN, Iv.shut_eq, Iv.iZp, Iv.zipW, isring_ok h]
theorem number_ok {a lo hi : Int} (h1 : lo ≤ a) (h2 : a ≤ hi) (S : Store) : F_check_number [.int a, .int lo, .int hi] S = .ok .non S := by
  simp [F_check_number, b_check_number, Iv.eVar, Iv.eC, Iv.eOp, Iv.eUn, Iv.aNil, Iv.aCons, Iv.eCall, Iv.eTup, Iv.eLst, Iv.eNew, Iv.eAnd, Iv.eOr, Iv.wNot, Iv.bVal, Iv.bAnd, Iv.bOr, Iv.bNot, Iv.eIf, Iv.eChain, Iv.mkTup, Iv.mkLst, Iv.mkNew, Iv.wAdd, Iv.wSub, Iv.wMul, Iv.wFdiv, Iv.wMod, Iv.wPow, Iv.wNeg, Iv.wEq, Iv.wNe, Iv.wLt, Iv.wLe, Iv.wGt, Iv.wGe, Iv.wIs, Iv.wIsNot, Iv.isFlat, Iv.inW, Iv.wIn, Iv.wNotIn, Iv.wIx, Iv.dat, Iv.datL, Iv.datS, Iv.listOf, Iv.seqOf, Iv.stillOf, Iv.oNo, Iv.oSome, Iv.cutW, Iv.wSl, Iv.eSl, Iv.gNm, Iv.gsNil, Iv.gsCons, Iv.gTu, Iv.setAt, Iv.gIx, Iv.sNext, Iv.sSeq, Iv.sIf, Iv.sRet, Iv.sEx, Iv.sAsg, Iv.sRaise, Iv.sBreak, Iv.sCont, Iv.iSeq, Iv.iRg, Iv.iRg2, Iv.forF, Iv.sFor, Iv.gUl, Iv.sPr, Iv.sPr3, Iv.wipeE, Iv.bYes, Iv.lcF, Iv.eLc, Iv.okW, Iv.okWs, Iv.okO, Iv.frzW, Iv.frzWs, Iv.fin, Iv.finX, Iv.finN, Iv.start0, Iv.runF, Iv.runN, Iv.eFn, Iv.bSum, Iv.bSorted, Iv.bLen, Iv.bAbs, Iv.bTuple, Iv.bList, Iv.bListN, Iv.blsOf, Iv.bAll, Iv.bAny, Iv.bInt, Iv.bIsi, Iv.isi, Iv.wRev, Iv.eLm, Iv.mAppend, Iv.mPop, Iv.mPopAt, Iv.lc2F, Iv.eLc2, Iv.Res.bind, Iv.rangeW, Iv.wAddN, Iv.shut_eq, Iv.iZp, Iv.zipW, between_int, h1, h2]
/-! ### turned and mirrored ones -/
theorem begun0 (a b c d : Int) (S : Store) : F_begun_at [t4 a b c d, .int 0] S = .ok (t4 a b c d) S := by simp [F_begun_at, b_begun_at, Iv.eVar, Iv.eC, Iv.eOp, Iv.eUn, Iv.aNil, Iv.aCons, Iv.eCall, Iv.eTup, Iv.eLst, Iv.eNew, Iv.eAnd, Iv.eOr, Iv.wNot, Iv.bVal, Iv.bAnd, Iv.bOr, Iv.bNot, Iv.eIf, Iv.eChain, Iv.mkTup, Iv.mkLst, Iv.mkNew, Iv.wAdd, Iv.wSub, Iv.wMul, Iv.wFdiv, Iv.wMod, Iv.wPow, Iv.wNeg, Iv.wEq, Iv.wNe, Iv.wLt, Iv.wLe, Iv.wGt, Iv.wGe, Iv.wIs, Iv.wIsNot, Iv.isFlat, Iv.inW, Iv.wIn, Iv.wNotIn, Iv.wIx, Iv.dat, Iv.datL, Iv.datS, Iv.listOf, Iv.seqOf, Iv.stillOf, Iv.oNo, Iv.oSome, Iv.cutW, Iv.wSl, Iv.eSl, Iv.gNm, Iv.gsNil, Iv.gsCons, Iv.gTu, Iv.setAt, Iv.gIx, Iv.sNext, Iv.sSeq, Iv.sIf, Iv.sRet, Iv.sEx, Iv.sAsg, Iv.sRaise, Iv.sBreak, Iv.sCont, Iv.iSeq, Iv.iRg, Iv.iRg2, Iv.forF, Iv.sFor, Iv.gUl, Iv.sPr, Iv.sPr3, Iv.wipeE, Iv.bYes, Iv.lcF, Iv.eLc, Iv.okW, Iv.okWs, Iv.okO, Iv.frzW, Iv.frzWs, Iv.fin, Iv.finX, Iv.finN, Iv.start0, Iv.runF, Iv.runN, Iv.eFn, Iv.bSum, Iv.bSorted, Iv.bLen, Iv.bAbs, Iv.bTuple, Iv.bList, Iv.bListN, Iv.blsOf, Iv.bAll, Iv.bAny, Iv.bInt, Iv.bIsi, Iv.isi, Iv.wRev, Iv.eLm, Iv.mAppend, Iv.mPop, Iv.mPopAt, Iv.lc2F, Iv.eLc2, Iv.Res.bind, Iv.rangeW, Iv.wAddN, Iv.shut_eq, Iv.iZp, Iv.zipW, sx0, sy0, sxn, syn]
theorem begun1 (a b c d : Int) (S : Store) : F_begun_at [t4 a b c d, .int 1] S = .ok (t4 b c d a) S := by simp [F_begun_at, b_begun_at, Iv.eVar, Iv.eC, Iv.eOp, Iv.eUn, Iv.aNil, Iv.aCons, Iv.eCall, Iv.eTup, Iv.eLst, Iv.eNew, Iv.eAnd, Iv.eOr, Iv.wNot, Iv.bVal, Iv.bAnd, Iv.bOr, Iv.bNot, Iv.eIf, Iv.eChain, Iv.mkTup, Iv.mkLst, Iv.mkNew, Iv.wAdd, Iv.wSub, Iv.wMul, Iv.wFdiv, Iv.wMod, Iv.wPow, Iv.wNeg, Iv.wEq, Iv.wNe, Iv.wLt, Iv.wLe, Iv.wGt, Iv.wGe, Iv.wIs, Iv.wIsNot, Iv.isFlat, Iv.inW, Iv.wIn, Iv.wNotIn, Iv.wIx, Iv.dat, Iv.datL, Iv.datS, Iv.listOf, Iv.seqOf, Iv.stillOf, Iv.oNo, Iv.oSome, Iv.cutW, Iv.wSl, Iv.eSl, Iv.gNm, Iv.gsNil, Iv.gsCons, Iv.gTu, Iv.setAt, Iv.gIx, Iv.sNext, Iv.sSeq, Iv.sIf, Iv.sRet, Iv.sEx, Iv.sAsg, Iv.sRaise, Iv.sBreak, Iv.sCont, Iv.iSeq, Iv.iRg, Iv.iRg2, Iv.forF, Iv.sFor, Iv.gUl, Iv.sPr, Iv.sPr3, Iv.wipeE, Iv.bYes, Iv.lcF, Iv.eLc, Iv.okW, Iv.okWs, Iv.okO, Iv.frzW, Iv.frzWs, Iv.fin, Iv.finX, Iv.finN, Iv.start0, Iv.runF, Iv.runN, Iv.eFn, Iv.bSum, Iv.bSorted, Iv.bLen, Iv.bAbs, Iv.bTuple, Iv.bList, Iv.bListN, Iv.blsOf, Iv.bAll, Iv.bAny, Iv.bInt, Iv.bIsi, Iv.isi, Iv.wRev, Iv.eLm, Iv.mAppend, Iv.mPop, Iv.mPopAt, Iv.lc2F, Iv.eLc2, Iv.Res.bind, Iv.rangeW, Iv.wAddN, Iv.shut_eq, Iv.iZp, Iv.zipW, sx1, sy1, sxn, syn]
theorem begun2 (a b c d : Int) (S : Store) : F_begun_at [t4 a b c d, .int 2] S = .ok (t4 c d a b) S := by simp [F_begun_at, b_begun_at, Iv.eVar, Iv.eC, Iv.eOp, Iv.eUn, Iv.aNil, Iv.aCons, Iv.eCall, Iv.eTup, Iv.eLst, Iv.eNew, Iv.eAnd, Iv.eOr, Iv.wNot, Iv.bVal, Iv.bAnd, Iv.bOr, Iv.bNot, Iv.eIf, Iv.eChain, Iv.mkTup, Iv.mkLst, Iv.mkNew, Iv.wAdd, Iv.wSub, Iv.wMul, Iv.wFdiv, Iv.wMod, Iv.wPow, Iv.wNeg, Iv.wEq, Iv.wNe, Iv.wLt, Iv.wLe, Iv.wGt, Iv.wGe, Iv.wIs, Iv.wIsNot, Iv.isFlat, Iv.inW, Iv.wIn, Iv.wNotIn, Iv.wIx, Iv.dat, Iv.datL, Iv.datS, Iv.listOf, Iv.seqOf, Iv.stillOf, Iv.oNo, Iv.oSome, Iv.cutW, Iv.wSl, Iv.eSl, Iv.gNm, Iv.gsNil, Iv.gsCons, Iv.gTu, Iv.setAt, Iv.gIx, Iv.sNext, Iv.sSeq, Iv.sIf, Iv.sRet, Iv.sEx, Iv.sAsg, Iv.sRaise, Iv.sBreak, Iv.sCont, Iv.iSeq, Iv.iRg, Iv.iRg2, Iv.forF, Iv.sFor, Iv.gUl, Iv.sPr, Iv.sPr3, Iv.wipeE, Iv.bYes, Iv.lcF, Iv.eLc, Iv.okW, Iv.okWs, Iv.okO, Iv.frzW, Iv.frzWs, Iv.fin, Iv.finX, Iv.finN, Iv.start0, Iv.runF, Iv.runN, Iv.eFn, Iv.bSum, Iv.bSorted, Iv.bLen, Iv.bAbs, Iv.bTuple, Iv.bList, Iv.bListN, Iv.blsOf, Iv.bAll, Iv.bAny, Iv.bInt, Iv.bIsi, Iv.isi, Iv.wRev, Iv.eLm, Iv.mAppend, Iv.mPop, Iv.mPopAt, Iv.lc2F, Iv.eLc2, Iv.Res.bind, Iv.rangeW, Iv.wAddN, Iv.shut_eq, Iv.iZp, Iv.zipW, sx2, sy2, sxn, syn]
theorem begun3 (a b c d : Int) (S : Store) : F_begun_at [t4 a b c d, .int 3] S = .ok (t4 d a b c) S := by simp [F_begun_at, b_begun_at, Iv.eVar, Iv.eC, Iv.eOp, Iv.eUn, Iv.aNil, Iv.aCons, Iv.eCall, Iv.eTup, Iv.eLst, Iv.eNew, Iv.eAnd, Iv.eOr, Iv.wNot, Iv.bVal, Iv.bAnd, Iv.bOr, Iv.bNot, Iv.eIf, Iv.eChain, Iv.mkTup, Iv.mkLst, Iv.mkNew, Iv.wAdd, Iv.wSub, Iv.wMul, Iv.wFdiv, Iv.wMod, Iv.wPow, Iv.wNeg, Iv.wEq, Iv.wNe, Iv.wLt, Iv.wLe, Iv.wGt, Iv.wGe, Iv.wIs, Iv.wIsNot, Iv.isFlat, Iv.inW, Iv.wIn, Iv.wNotIn, Iv.wIx, Iv.dat, Iv.datL, Iv.datS, Iv.listOf, Iv.seqOf, Iv.stillOf, Iv.oNo, Iv.oSome, Iv.cutW, Iv.wSl, Iv.eSl, Iv.gNm, Iv.gsNil, Iv.gsCons, Iv.gTu, Iv.setAt, Iv.gIx, Iv.sNext, Iv.sSeq, Iv.sIf, Iv.sRet, Iv.sEx, Iv.sAsg, Iv.sRaise, Iv.sBreak, Iv.sCont, Iv.iSeq, Iv.iRg, Iv.iRg2, Iv.forF, Iv.sFor, Iv.gUl, Iv.sPr, Iv.sPr3, Iv.wipeE, Iv.bYes, Iv.lcF, Iv.eLc, Iv.okW, Iv.okWs, Iv.okO, Iv.frzW, Iv.frzWs, Iv.fin, Iv.finX, Iv.finN, Iv.start0, Iv.runF, Iv.runN, Iv.eFn, Iv.bSum, Iv.bSorted, Iv.bLen, Iv.bAbs, Iv.bTuple, Iv.bList, Iv.bListN, Iv.blsOf, Iv.bAll, Iv.bAny, Iv.bInt, Iv.bIsi, Iv.isi, Iv.wRev, Iv.eLm, Iv.mAppend, Iv.mPop, Iv.mPopAt, Iv.lc2F, Iv.eLc2, Iv.Res.bind, Iv.rangeW, Iv.wAddN, Iv.shut_eq, Iv.iZp, Iv.zipW, sx3, sy3, sxn, syn]
theorem mirrored_ok {a b c d : Int} (h : IsR a b c d) (S : Store) : F_mirrored [t4 a b c d] S = .ok (t4 d c b a) S := by simp [F_mirrored, b_mirrored, Iv.eVar, Iv.eC, Iv.eOp, Iv.eUn, Iv.aNil, Iv.aCons, Iv.eCall, Iv.eTup, Iv.eLst, Iv.eNew, Iv.eAnd, Iv.eOr, Iv.wNot, Iv.bVal, Iv.bAnd, Iv.bOr, Iv.bNot, Iv.eIf, Iv.eChain, Iv.mkTup, Iv.mkLst, Iv.mkNew, Iv.wAdd, Iv.wSub, Iv.wMul, Iv.wFdiv, Iv.wMod, Iv.wPow, Iv.wNeg, Iv.wEq, Iv.wNe, Iv.wLt, Iv.wLe, Iv.wGt, Iv.wGe, Iv.wIs, Iv.wIsNot, Iv.isFlat, Iv.inW, Iv.wIn, Iv.wNotIn, Iv.wIx, Iv.dat, Iv.datL, Iv.datS, Iv.listOf, Iv.seqOf, Iv.stillOf, Iv.oNo, Iv.oSome, Iv.cutW, Iv.wSl, Iv.eSl, Iv.gNm, Iv.gsNil, Iv.gsCons, Iv.gTu, Iv.setAt, Iv.gIx, Iv.sNext, Iv.sSeq, Iv.sIf, Iv.sRet, Iv.sEx, Iv.sAsg, Iv.sRaise, Iv.sBreak, Iv.sCont, Iv.iSeq, Iv.iRg, Iv.iRg2, Iv.forF, Iv.sFor, Iv.gUl, Iv.sPr, Iv.sPr3, Iv.wipeE, Iv.bYes, Iv.lcF, Iv.eLc, Iv.okW, Iv.okWs, Iv.okO, Iv.frzW, Iv.frzWs, Iv.fin, Iv.finX, Iv.finN, Iv.start0, Iv.runF, Iv.runN, Iv.eFn, Iv.bSum, Iv.bSorted, Iv.bLen, Iv.bAbs, Iv.bTuple, Iv.bList, Iv.bListN, Iv.blsOf, Iv.bAll, Iv.bAny, Iv.bInt, Iv.bIsi, Iv.isi, Iv.wRev, Iv.eLm, Iv.mAppend, Iv.mPop, Iv.mPopAt, Iv.lc2F, Iv.eLc2, Iv.Res.bind, Iv.rangeW, Iv.wAddN, Iv.shut_eq, Iv.iZp, Iv.zipW, check_ok h]
theorem turned0 {a b c d : Int} (h : IsR a b c d) (S : Store) : F_turned [t4 a b c d, .int 0] S = .ok (t4 a b c d) S := by simp [F_turned, b_turned, b_turned_1, Iv.eVar, Iv.eC, Iv.eOp, Iv.eUn, Iv.aNil, Iv.aCons, Iv.eCall, Iv.eTup, Iv.eLst, Iv.eNew, Iv.eAnd, Iv.eOr, Iv.wNot, Iv.bVal, Iv.bAnd, Iv.bOr, Iv.bNot, Iv.eIf, Iv.eChain, Iv.mkTup, Iv.mkLst, Iv.mkNew, Iv.wAdd, Iv.wSub, Iv.wMul, Iv.wFdiv, Iv.wMod, Iv.wPow, Iv.wNeg, Iv.wEq, Iv.wNe, Iv.wLt, Iv.wLe, Iv.wGt, Iv.wGe, Iv.wIs, Iv.wIsNot, Iv.isFlat, Iv.inW, Iv.wIn, Iv.wNotIn, Iv.wIx, Iv.dat, Iv.datL, Iv.datS, Iv.listOf, Iv.seqOf, Iv.stillOf, Iv.oNo, Iv.oSome, Iv.cutW, Iv.wSl, Iv.eSl, Iv.gNm, Iv.gsNil, Iv.gsCons, Iv.gTu, Iv.setAt, Iv.gIx, Iv.sNext, Iv.sSeq, Iv.sIf, Iv.sRet, Iv.sEx, Iv.sAsg, Iv.sRaise, Iv.sBreak, Iv.sCont, Iv.iSeq, Iv.iRg, Iv.iRg2, Iv.forF, Iv.sFor, Iv.gUl, Iv.sPr, Iv.sPr3, Iv.wipeE, Iv.bYes, Iv.lcF, Iv.eLc, Iv.okW, Iv.okWs, Iv.okO, Iv.frzW, Iv.frzWs, Iv.fin, Iv.finX, Iv.finN, Iv.start0, Iv.runF, Iv.runN, Iv.eFn, Iv.bSum, Iv.bSorted, Iv.bLen, Iv.bAbs, Iv.bTuple, Iv.bList, Iv.bListN, Iv.blsOf, Iv.bAll, Iv.bAny, Iv.bInt, Iv.bIsi, Iv.isi, Iv.wRev, Iv.eLm, Iv.mAppend, Iv.mPop, Iv.mPopAt, Iv.lc2F, Iv.eLc2, Iv.Res.bind, Iv.rangeW, Iv.wAddN, Iv.shut_eq, Iv.iZp, Iv.zipW, check_ok h, number_ok, begun0]
theorem turned1 {a b c d : Int} (h : IsR a b c d) (S : Store) : F_turned [t4 a b c d, .int 1] S = .ok (t4 b c d a) S := by simp [F_turned, b_turned, b_turned_1, Iv.eVar, Iv.eC, Iv.eOp, Iv.eUn, Iv.aNil, Iv.aCons, Iv.eCall, Iv.eTup, Iv.eLst, Iv.eNew, Iv.eAnd, Iv.eOr, Iv.wNot, Iv.bVal, Iv.bAnd, Iv.bOr, Iv.bNot, Iv.eIf, Iv.eChain, Iv.mkTup, Iv.mkLst, Iv.mkNew, Iv.wAdd, Iv.wSub, Iv.wMul, Iv.wFdiv, Iv.wMod, Iv.wPow, Iv.wNeg, Iv.wEq, Iv.wNe, Iv.wLt, Iv.wLe, Iv.wGt, Iv.wGe, Iv.wIs, Iv.wIsNot, Iv.isFlat, Iv.inW, Iv.wIn, Iv.wNotIn, Iv.wIx, Iv.dat, Iv.datL, Iv.datS, Iv.listOf, Iv.seqOf, Iv.stillOf, Iv.oNo, Iv.oSome, Iv.cutW, Iv.wSl, Iv.eSl, Iv.gNm, Iv.gsNil, Iv.gsCons, Iv.gTu, Iv.setAt, Iv.gIx, Iv.sNext, Iv.sSeq, Iv.sIf, Iv.sRet, Iv.sEx, Iv.sAsg, Iv.sRaise, Iv.sBreak, Iv.sCont, Iv.iSeq, Iv.iRg, Iv.iRg2, Iv.forF, Iv.sFor, Iv.gUl, Iv.sPr, Iv.sPr3, Iv.wipeE, Iv.bYes, Iv.lcF, Iv.eLc, Iv.okW, Iv.okWs, Iv.okO, Iv.frzW, Iv.frzWs, Iv.fin, Iv.finX, Iv.finN, Iv.start0, Iv.runF, Iv.runN, Iv.eFn, Iv.bSum, Iv.bSorted, Iv.bLen, Iv.bAbs, Iv.bTuple, Iv.bList, Iv.bListN, Iv.blsOf, Iv.bAll, Iv.bAny, Iv.bInt, Iv.bIsi, Iv.isi, Iv.wRev, Iv.eLm, Iv.mAppend, Iv.mPop, Iv.mPopAt, Iv.lc2F, Iv.eLc2, Iv.Res.bind, Iv.rangeW, Iv.wAddN, Iv.shut_eq, Iv.iZp, Iv.zipW, check_ok h, number_ok, begun1]
theorem turned2 {a b c d : Int} (h : IsR a b c d) (S : Store) : F_turned [t4 a b c d, .int 2] S = .ok (t4 c d a b) S := by simp [F_turned, b_turned, b_turned_1, Iv.eVar, Iv.eC, Iv.eOp, Iv.eUn, Iv.aNil, Iv.aCons, Iv.eCall, Iv.eTup, Iv.eLst, Iv.eNew, Iv.eAnd, Iv.eOr, Iv.wNot, Iv.bVal, Iv.bAnd, Iv.bOr, Iv.bNot, Iv.eIf, Iv.eChain, Iv.mkTup, Iv.mkLst, Iv.mkNew, Iv.wAdd, Iv.wSub, Iv.wMul, Iv.wFdiv, Iv.wMod, Iv.wPow, Iv.wNeg, Iv.wEq, Iv.wNe, Iv.wLt, Iv.wLe, Iv.wGt, Iv.wGe, Iv.wIs, Iv.wIsNot, Iv.isFlat, Iv.inW, Iv.wIn, Iv.wNotIn, Iv.wIx, Iv.dat, Iv.datL, Iv.datS, Iv.listOf, Iv.seqOf, Iv.stillOf, Iv.oNo, Iv.oSome, Iv.cutW, Iv.wSl, Iv.eSl, Iv.gNm, Iv.gsNil, Iv.gsCons, Iv.gTu, Iv.setAt, Iv.gIx, Iv.sNext, Iv.sSeq, Iv.sIf, Iv.sRet, Iv.sEx, Iv.sAsg, Iv.sRaise, Iv.sBreak, Iv.sCont, Iv.iSeq, Iv.iRg, Iv.iRg2, Iv.forF, Iv.sFor, Iv.gUl, Iv.sPr, Iv.sPr3, Iv.wipeE, Iv.bYes, Iv.lcF, Iv.eLc, Iv.okW, Iv.okWs, Iv.okO, Iv.frzW, Iv.frzWs, Iv.fin, Iv.finX, Iv.finN, Iv.start0, Iv.runF, Iv.runN, Iv.eFn, Iv.bSum, Iv.bSorted, Iv.bLen, Iv.bAbs, Iv.bTuple, Iv.bList, Iv.bListN, Iv.blsOf, Iv.bAll, Iv.bAny, Iv.bInt, Iv.bIsi, Iv.isi, Iv.wRev, Iv.eLm, Iv.mAppend, Iv.mPop, Iv.mPopAt, Iv.lc2F, Iv.eLc2, Iv.Res.bind, Iv.rangeW, Iv.wAddN, Iv.shut_eq, Iv.iZp, Iv.zipW, check_ok h, number_ok, begun2]
theorem turned3 {a b c d : Int} (h : IsR a b c d) (S : Store) : F_turned [t4 a b c d, .int 3] S = .ok (t4 d a b c) S := by simp [F_turned, b_turned, b_turned_1, Iv.eVar, Iv.eC, Iv.eOp, Iv.eUn, Iv.aNil, Iv.aCons, Iv.eCall, Iv.eTup, Iv.eLst, Iv.eNew, Iv.eAnd, Iv.eOr, Iv.wNot, Iv.bVal, Iv.bAnd, Iv.bOr, Iv.bNot, Iv.eIf, Iv.eChain, Iv.mkTup, Iv.mkLst, Iv.mkNew, Iv.wAdd, Iv.wSub, Iv.wMul, Iv.wFdiv, Iv.wMod, Iv.wPow, Iv.wNeg, Iv.wEq, Iv.wNe, Iv.wLt, Iv.wLe, Iv.wGt, Iv.wGe, Iv.wIs, Iv.wIsNot, Iv.isFlat, Iv.inW, Iv.wIn, Iv.wNotIn, Iv.wIx, Iv.dat, Iv.datL, Iv.datS, Iv.listOf, Iv.seqOf, Iv.stillOf, Iv.oNo, Iv.oSome, Iv.cutW, Iv.wSl, Iv.eSl, Iv.gNm, Iv.gsNil, Iv.gsCons, Iv.gTu, Iv.setAt, Iv.gIx, Iv.sNext, Iv.sSeq, Iv.sIf, Iv.sRet, Iv.sEx, Iv.sAsg, Iv.sRaise, Iv.sBreak, Iv.sCont, Iv.iSeq, Iv.iRg, Iv.iRg2, Iv.forF, Iv.sFor, Iv.gUl, Iv.sPr, Iv.sPr3, Iv.wipeE, Iv.bYes, Iv.lcF, Iv.eLc, Iv.okW, Iv.okWs, Iv.okO, Iv.frzW, Iv.frzWs, Iv.fin, Iv.finX, Iv.finN, Iv.start0, Iv.runF, Iv.runN, Iv.eFn, Iv.bSum, Iv.bSorted, Iv.bLen, Iv.bAbs, Iv.bTuple, Iv.bList, Iv.bListN, Iv.blsOf, Iv.bAll, Iv.bAny, Iv.bInt, Iv.bIsi, Iv.isi, Iv.wRev, Iv.eLm, Iv.mAppend, Iv.mPop, Iv.mPopAt, Iv.lc2F, Iv.eLc2, Iv.Res.bind, Iv.rangeW, Iv.wAddN, Iv.shut_eq, Iv.iZp, Iv.zipW, check_ok h, number_ok, begun3]
theorem IsR.turn {a b c d : Int} (h : IsR a b c d) : IsR b c d a := by obtain ⟨h1, h2, h3, h4, h5, h6, h7, h8, h9, h10, h11, h12⟩ := h; constructor <;> omega
theorem IsR.mir {a b c d : Int} (h : IsR a b c d) : IsR d c b a := by obtain ⟨h1, h2, h3, h4, h5, h6, h7, h8, h9, h10, h11, h12⟩ := h; constructor <;> omega
/-! ### kinds -/
def kindS (a b c d : Int) : Str := if 2 * (mn4 a b c d + mx4 a b c d) = a + b + c + d then "flat" else if 2 * (mn4 a b c d + mx4 a b c d) < a + b + c + d then "free" else "bound"
theorem kindof_spec (a b c d : Int) (S : Store) : F_kind_of [t4 a b c d] S = .ok (.str (kindS a b c d)) S := by
  have e0 : ∀ i : Int, SeqAt.shaped (.int i) = true := fun _ => rfl
  obtain ⟨x0, x1, x2, x3, es, hs⟩ := sort4 a b c d
  obtain ⟨s1, s2, s3, s4, s5, s6⟩ := hs
  have k1 : mn4 a b c d = x0 := by unfold mn4; omega
  have k2 : mx4 a b c d = x3 := by unfold mx4; omega
  unfold kindS
  rw [k1, k2]
  by_cases g0 : x0 + x3 - x1 - x2 = 0
  · have g1 : 2 * (x0 + x3) = a + b + c + d := by omega
    simp [F_kind_of, b_kind_of, b_kind_of_1, b_kind_of_2, Iv.eVar, Iv.eC, Iv.eOp, Iv.eUn, Iv.aNil, Iv.aCons, Iv.eCall, Iv.eTup, Iv.eLst, Iv.eNew, Iv.eAnd, Iv.eOr, Iv.wNot, Iv.bVal, Iv.bAnd, Iv.bOr, Iv.bNot, Iv.eIf, Iv.eChain, Iv.mkTup, Iv.mkLst, Iv.mkNew, Iv.wAdd, Iv.wSub, Iv.wMul, Iv.wFdiv, Iv.wMod, Iv.wPow, Iv.wNeg, Iv.wEq, Iv.wNe, Iv.wLt, Iv.wLe, Iv.wGt, Iv.wGe, Iv.wIs, Iv.wIsNot, Iv.isFlat, Iv.inW, Iv.wIn, Iv.wNotIn, Iv.wIx, Iv.dat, Iv.datL, Iv.datS, Iv.listOf, Iv.seqOf, Iv.stillOf, Iv.oNo, Iv.oSome, Iv.cutW, Iv.wSl, Iv.eSl, Iv.gNm, Iv.gsNil, Iv.gsCons, Iv.gTu, Iv.setAt, Iv.gIx, Iv.sNext, Iv.sSeq, Iv.sIf, Iv.sRet, Iv.sEx, Iv.sAsg, Iv.sRaise, Iv.sBreak, Iv.sCont, Iv.iSeq, Iv.iRg, Iv.iRg2, Iv.forF, Iv.sFor, Iv.gUl, Iv.sPr, Iv.sPr3, Iv.wipeE, Iv.bYes, Iv.lcF, Iv.eLc, Iv.okW, Iv.okWs, Iv.okO, Iv.frzW, Iv.frzWs, Iv.fin, Iv.finX, Iv.finN, Iv.start0, Iv.runF, Iv.runN, Iv.eFn, Iv.bSum, Iv.bSorted, Iv.bLen, Iv.bAbs, Iv.bTuple, Iv.bList, Iv.bListN, Iv.blsOf, Iv.bAll, Iv.bAny, Iv.bInt, Iv.bIsi, Iv.isi, Iv.wRev, Iv.eLm, Iv.mAppend, Iv.mPop, Iv.mPopAt, Iv.lc2F, Iv.eLc2, Iv.Res.bind, Iv.rangeW, Iv.wAddN, Iv.shut_eq, Iv.iZp, Iv.zipW, intsOf, es, L2.atI, ixN, e0, PyData.eqv, g0, g1]
  · have g1 : ¬ 2 * (x0 + x3) = a + b + c + d := by omega
    by_cases g2 : x0 + x3 - x1 - x2 < 0
    · have g3 : 2 * (x0 + x3) < a + b + c + d := by omega
      simp [F_kind_of, b_kind_of, b_kind_of_1, b_kind_of_2, Iv.eVar, Iv.eC, Iv.eOp, Iv.eUn, Iv.aNil, Iv.aCons, Iv.eCall, Iv.eTup, Iv.eLst, Iv.eNew, Iv.eAnd, Iv.eOr, Iv.wNot, Iv.bVal, Iv.bAnd, Iv.bOr, Iv.bNot, Iv.eIf, Iv.eChain, Iv.mkTup, Iv.mkLst, Iv.mkNew, Iv.wAdd, Iv.wSub, Iv.wMul, Iv.wFdiv, Iv.wMod, Iv.wPow, Iv.wNeg, Iv.wEq, Iv.wNe, Iv.wLt, Iv.wLe, Iv.wGt, Iv.wGe, Iv.wIs, Iv.wIsNot, Iv.isFlat, Iv.inW, Iv.wIn, Iv.wNotIn, Iv.wIx, Iv.dat, Iv.datL, Iv.datS, Iv.listOf, Iv.seqOf, Iv.stillOf, Iv.oNo, Iv.oSome, Iv.cutW, Iv.wSl, Iv.eSl, Iv.gNm, Iv.gsNil, Iv.gsCons, Iv.gTu, Iv.setAt, Iv.gIx, Iv.sNext, Iv.sSeq, Iv.sIf, Iv.sRet, Iv.sEx, Iv.sAsg, Iv.sRaise, Iv.sBreak, Iv.sCont, Iv.iSeq, Iv.iRg, Iv.iRg2, Iv.forF, Iv.sFor, Iv.gUl, Iv.sPr, Iv.sPr3, Iv.wipeE, Iv.bYes, Iv.lcF, Iv.eLc, Iv.okW, Iv.okWs, Iv.okO, Iv.frzW, Iv.frzWs, Iv.fin, Iv.finX, Iv.finN, Iv.start0, Iv.runF, Iv.runN, Iv.eFn, Iv.bSum, Iv.bSorted, Iv.bLen, Iv.bAbs, Iv.bTuple, Iv.bList, Iv.bListN, Iv.blsOf, Iv.bAll, Iv.bAny, Iv.bInt, Iv.bIsi, Iv.isi, Iv.wRev, Iv.eLm, Iv.mAppend, Iv.mPop, Iv.mPopAt, Iv.lc2F, Iv.eLc2, Iv.Res.bind, Iv.rangeW, Iv.wAddN, Iv.shut_eq, Iv.iZp, Iv.zipW, intsOf, es, L2.atI, ixN, e0, PyData.eqv, g0, g1, g2, g3]
    · have g3 : ¬ 2 * (x0 + x3) < a + b + c + d := by omega
      simp [F_kind_of, b_kind_of, b_kind_of_1, b_kind_of_2, Iv.eVar, Iv.eC, Iv.eOp, Iv.eUn, Iv.aNil, Iv.aCons, Iv.eCall, Iv.eTup, Iv.eLst, Iv.eNew, Iv.eAnd, Iv.eOr, Iv.wNot, Iv.bVal, Iv.bAnd, Iv.bOr, Iv.bNot, Iv.eIf, Iv.eChain, Iv.mkTup, Iv.mkLst, Iv.mkNew, Iv.wAdd, Iv.wSub, Iv.wMul, Iv.wFdiv, Iv.wMod, Iv.wPow, Iv.wNeg, Iv.wEq, Iv.wNe, Iv.wLt, Iv.wLe, Iv.wGt, Iv.wGe, Iv.wIs, Iv.wIsNot, Iv.isFlat, Iv.inW, Iv.wIn, Iv.wNotIn, Iv.wIx, Iv.dat, Iv.datL, Iv.datS, Iv.listOf, Iv.seqOf, Iv.stillOf, Iv.oNo, Iv.oSome, Iv.cutW, Iv.wSl, Iv.eSl, Iv.gNm, Iv.gsNil, Iv.gsCons, Iv.gTu, Iv.setAt, Iv.gIx, Iv.sNext, Iv.sSeq, Iv.sIf, Iv.sRet, Iv.sEx, Iv.sAsg, Iv.sRaise, Iv.sBreak, Iv.sCont, Iv.iSeq, Iv.iRg, Iv.iRg2, Iv.forF, Iv.sFor, Iv.gUl, Iv.sPr, Iv.sPr3, Iv.wipeE, Iv.bYes, Iv.lcF, Iv.eLc, Iv.okW, Iv.okWs, Iv.okO, Iv.frzW, Iv.frzWs, Iv.fin, Iv.finX, Iv.finN, Iv.start0, Iv.runF, Iv.runN, Iv.eFn, Iv.bSum, Iv.bSorted, Iv.bLen, Iv.bAbs, Iv.bTuple, Iv.bList, Iv.bListN, Iv.blsOf, Iv.bAll, Iv.bAny, Iv.bInt, Iv.bIsi, Iv.isi, Iv.wRev, Iv.eLm, Iv.mAppend, Iv.mPop, Iv.mPopAt, Iv.lc2F, Iv.eLc2, Iv.Res.bind, Iv.rangeW, Iv.wAddN, Iv.shut_eq, Iv.iZp, Iv.zipW, intsOf, es, L2.atI, ixN, e0, PyData.eqv, g0, g1, g2, g3]
theorem lawkind_spec (a b c d : Int) (S : Store) : F_law_kind [t4 a b c d] S = .ok (.str (kindS a b c d)) S := by
  obtain ⟨x0, x1, x2, x3, es, hs⟩ := sort4 a b c d
  obtain ⟨s1, s2, s3, s4, s5, s6⟩ := hs
  have k1 : mn4 a b c d = x0 := by unfold mn4; omega
  have k2 : mx4 a b c d = x3 := by unfold mx4; omega
  unfold kindS
  rw [k1, k2]
  by_cases g0 : 0 < x1 + x2 - x0 - x3
  · have g1 : ¬ 2 * (x0 + x3) = a + b + c + d := by omega
    have g3 : 2 * (x0 + x3) < a + b + c + d := by omega
    have g4 : ¬ x1 + x2 - x0 - x3 < 0 := by omega
    have g5 : x3 < x1 + x2 - x0 := by omega
    simp [g5, F_law_kind, b_law_kind, b_law_kind_1, Iv.eVar, Iv.eC, Iv.eOp, Iv.eUn, Iv.aNil, Iv.aCons, Iv.eCall, Iv.eTup, Iv.eLst, Iv.eNew, Iv.eAnd, Iv.eOr, Iv.wNot, Iv.bVal, Iv.bAnd, Iv.bOr, Iv.bNot, Iv.eIf, Iv.eChain, Iv.mkTup, Iv.mkLst, Iv.mkNew, Iv.wAdd, Iv.wSub, Iv.wMul, Iv.wFdiv, Iv.wMod, Iv.wPow, Iv.wNeg, Iv.wEq, Iv.wNe, Iv.wLt, Iv.wLe, Iv.wGt, Iv.wGe, Iv.wIs, Iv.wIsNot, Iv.isFlat, Iv.inW, Iv.wIn, Iv.wNotIn, Iv.wIx, Iv.dat, Iv.datL, Iv.datS, Iv.listOf, Iv.seqOf, Iv.stillOf, Iv.oNo, Iv.oSome, Iv.cutW, Iv.wSl, Iv.eSl, Iv.gNm, Iv.gsNil, Iv.gsCons, Iv.gTu, Iv.setAt, Iv.gIx, Iv.sNext, Iv.sSeq, Iv.sIf, Iv.sRet, Iv.sEx, Iv.sAsg, Iv.sRaise, Iv.sBreak, Iv.sCont, Iv.iSeq, Iv.iRg, Iv.iRg2, Iv.forF, Iv.sFor, Iv.gUl, Iv.sPr, Iv.sPr3, Iv.wipeE, Iv.bYes, Iv.lcF, Iv.eLc, Iv.okW, Iv.okWs, Iv.okO, Iv.frzW, Iv.frzWs, Iv.fin, Iv.finX, Iv.finN, Iv.start0, Iv.runF, Iv.runN, Iv.eFn, Iv.bSum, Iv.bSorted, Iv.bLen, Iv.bAbs, Iv.bTuple, Iv.bList, Iv.bListN, Iv.blsOf, Iv.bAll, Iv.bAny, Iv.bInt, Iv.bIsi, Iv.isi, Iv.wRev, Iv.eLm, Iv.mAppend, Iv.mPop, Iv.mPopAt, Iv.lc2F, Iv.eLc2, Iv.Res.bind, Iv.rangeW, Iv.wAddN, Iv.shut_eq, Iv.iZp, Iv.zipW, intsOf, es, L2.atI, ixN, g0, g1, g3, g4]
  · by_cases g2 : x1 + x2 - x0 - x3 < 0
    · have g1 : ¬ 2 * (x0 + x3) = a + b + c + d := by omega
      have g3 : ¬ 2 * (x0 + x3) < a + b + c + d := by omega
      have g5 : ¬ x3 < x1 + x2 - x0 := by omega
      simp [g5, F_law_kind, b_law_kind, b_law_kind_1, Iv.eVar, Iv.eC, Iv.eOp, Iv.eUn, Iv.aNil, Iv.aCons, Iv.eCall, Iv.eTup, Iv.eLst, Iv.eNew, Iv.eAnd, Iv.eOr, Iv.wNot, Iv.bVal, Iv.bAnd, Iv.bOr, Iv.bNot, Iv.eIf, Iv.eChain, Iv.mkTup, Iv.mkLst, Iv.mkNew, Iv.wAdd, Iv.wSub, Iv.wMul, Iv.wFdiv, Iv.wMod, Iv.wPow, Iv.wNeg, Iv.wEq, Iv.wNe, Iv.wLt, Iv.wLe, Iv.wGt, Iv.wGe, Iv.wIs, Iv.wIsNot, Iv.isFlat, Iv.inW, Iv.wIn, Iv.wNotIn, Iv.wIx, Iv.dat, Iv.datL, Iv.datS, Iv.listOf, Iv.seqOf, Iv.stillOf, Iv.oNo, Iv.oSome, Iv.cutW, Iv.wSl, Iv.eSl, Iv.gNm, Iv.gsNil, Iv.gsCons, Iv.gTu, Iv.setAt, Iv.gIx, Iv.sNext, Iv.sSeq, Iv.sIf, Iv.sRet, Iv.sEx, Iv.sAsg, Iv.sRaise, Iv.sBreak, Iv.sCont, Iv.iSeq, Iv.iRg, Iv.iRg2, Iv.forF, Iv.sFor, Iv.gUl, Iv.sPr, Iv.sPr3, Iv.wipeE, Iv.bYes, Iv.lcF, Iv.eLc, Iv.okW, Iv.okWs, Iv.okO, Iv.frzW, Iv.frzWs, Iv.fin, Iv.finX, Iv.finN, Iv.start0, Iv.runF, Iv.runN, Iv.eFn, Iv.bSum, Iv.bSorted, Iv.bLen, Iv.bAbs, Iv.bTuple, Iv.bList, Iv.bListN, Iv.blsOf, Iv.bAll, Iv.bAny, Iv.bInt, Iv.bIsi, Iv.isi, Iv.wRev, Iv.eLm, Iv.mAppend, Iv.mPop, Iv.mPopAt, Iv.lc2F, Iv.eLc2, Iv.Res.bind, Iv.rangeW, Iv.wAddN, Iv.shut_eq, Iv.iZp, Iv.zipW, intsOf, es, L2.atI, ixN, g0, g1, g2, g3]
    · have g1 : 2 * (x0 + x3) = a + b + c + d := by omega
      have g5 : ¬ x3 < x1 + x2 - x0 := by omega
      simp [g5, F_law_kind, b_law_kind, b_law_kind_1, Iv.eVar, Iv.eC, Iv.eOp, Iv.eUn, Iv.aNil, Iv.aCons, Iv.eCall, Iv.eTup, Iv.eLst, Iv.eNew, Iv.eAnd, Iv.eOr, Iv.wNot, Iv.bVal, Iv.bAnd, Iv.bOr, Iv.bNot, Iv.eIf, Iv.eChain, Iv.mkTup, Iv.mkLst, Iv.mkNew, Iv.wAdd, Iv.wSub, Iv.wMul, Iv.wFdiv, Iv.wMod, Iv.wPow, Iv.wNeg, Iv.wEq, Iv.wNe, Iv.wLt, Iv.wLe, Iv.wGt, Iv.wGe, Iv.wIs, Iv.wIsNot, Iv.isFlat, Iv.inW, Iv.wIn, Iv.wNotIn, Iv.wIx, Iv.dat, Iv.datL, Iv.datS, Iv.listOf, Iv.seqOf, Iv.stillOf, Iv.oNo, Iv.oSome, Iv.cutW, Iv.wSl, Iv.eSl, Iv.gNm, Iv.gsNil, Iv.gsCons, Iv.gTu, Iv.setAt, Iv.gIx, Iv.sNext, Iv.sSeq, Iv.sIf, Iv.sRet, Iv.sEx, Iv.sAsg, Iv.sRaise, Iv.sBreak, Iv.sCont, Iv.iSeq, Iv.iRg, Iv.iRg2, Iv.forF, Iv.sFor, Iv.gUl, Iv.sPr, Iv.sPr3, Iv.wipeE, Iv.bYes, Iv.lcF, Iv.eLc, Iv.okW, Iv.okWs, Iv.okO, Iv.frzW, Iv.frzWs, Iv.fin, Iv.finX, Iv.finN, Iv.start0, Iv.runF, Iv.runN, Iv.eFn, Iv.bSum, Iv.bSorted, Iv.bLen, Iv.bAbs, Iv.bTuple, Iv.bList, Iv.bListN, Iv.blsOf, Iv.bAll, Iv.bAny, Iv.bInt, Iv.bIsi, Iv.isi, Iv.wRev, Iv.eLm, Iv.mAppend, Iv.mPop, Iv.mPopAt, Iv.lc2F, Iv.eLc2, Iv.Res.bind, Iv.rangeW, Iv.wAddN, Iv.shut_eq, Iv.iZp, Iv.zipW, intsOf, es, L2.atI, ixN, g0, g1, g2]
theorem kind_ok {a b c d : Int} (h : IsR a b c d) (S : Store) : F_kind [t4 a b c d] S = .ok (.str (kindS a b c d)) S := by simp [F_kind, b_kind, Iv.eVar, Iv.eC, Iv.eOp, Iv.eUn, Iv.aNil, Iv.aCons, Iv.eCall, Iv.eTup, Iv.eLst, Iv.eNew, Iv.eAnd, Iv.eOr, Iv.wNot, Iv.bVal, Iv.bAnd, Iv.bOr, Iv.bNot, Iv.eIf, Iv.eChain, Iv.mkTup, Iv.mkLst, Iv.mkNew, Iv.wAdd, Iv.wSub, Iv.wMul, Iv.wFdiv, Iv.wMod, Iv.wPow, Iv.wNeg, Iv.wEq, Iv.wNe, Iv.wLt, Iv.wLe, Iv.wGt, Iv.wGe, Iv.wIs, Iv.wIsNot, Iv.isFlat, Iv.inW, Iv.wIn, Iv.wNotIn, Iv.wIx, Iv.dat, Iv.datL, Iv.datS, Iv.listOf, Iv.seqOf, Iv.stillOf, Iv.oNo, Iv.oSome, Iv.cutW, Iv.wSl, Iv.eSl, Iv.gNm, Iv.gsNil, Iv.gsCons, Iv.gTu, Iv.setAt, Iv.gIx, Iv.sNext, Iv.sSeq, Iv.sIf, Iv.sRet, Iv.sEx, Iv.sAsg, Iv.sRaise, Iv.sBreak, Iv.sCont, Iv.iSeq, Iv.iRg, Iv.iRg2, Iv.forF, Iv.sFor, Iv.gUl, Iv.sPr, Iv.sPr3, Iv.wipeE, Iv.bYes, Iv.lcF, Iv.eLc, Iv.okW, Iv.okWs, Iv.okO, Iv.frzW, Iv.frzWs, Iv.fin, Iv.finX, Iv.finN, Iv.start0, Iv.runF, Iv.runN, Iv.eFn, Iv.bSum, Iv.bSorted, Iv.bLen, Iv.bAbs, Iv.bTuple, Iv.bList, Iv.bListN, Iv.blsOf, Iv.bAll, Iv.bAny, Iv.bInt, Iv.bIsi, Iv.isi, Iv.wRev, Iv.eLm, Iv.mAppend, Iv.mPop, Iv.mPopAt, Iv.lc2F, Iv.eLc2, Iv.Res.bind, Iv.rangeW, Iv.wAddN, Iv.shut_eq, Iv.iZp, Iv.zipW, check_ok h, kindof_spec]
end G
end
section
set_option maxHeartbeats 4000000
set_option maxRecDepth 100000
namespace G
open PySem L2 Iv
/-! ### four numbers, the least of several -/
structure T4 where
  a : Int
  b : Int
  c : Int
  d : Int
deriving DecidableEq
theorem T4.ext' {x y : T4} (h1 : x.a = y.a) (h2 : x.b = y.b) (h3 : x.c = y.c) (h4 : x.d = y.d) : x = y := by
  cases x; cases y; simp at *; exact ⟨h1, h2, h3, h4⟩
def T4.w (x : T4) : W := t4 x.a x.b x.c x.d
def T4.e (x : T4) : PyData := .tuple [.int x.a, .int x.b, .int x.c, .int x.d]
def lt4 (x y : T4) : Bool := decide (x.a < y.a ∨ (x.a = y.a ∧ (x.b < y.b ∨ (x.b = y.b ∧ (x.c < y.c ∨ (x.c = y.c ∧ x.d < y.d))))))
theorem lt4_data (x y : T4) : PySem.W.dataLt x.e y.e = lt4 x y := by
  show PySem.W.dataLt (.tuple ([x.a, x.b, x.c, x.d].map .int)) (.tuple ([y.a, y.b, y.c, y.d].map .int)) = _
  rw [PySem.W.dataLt_tuple]
  show PySem.W.rowLt ([x.a, x.b, x.c, x.d].map .int) ([y.a, y.b, y.c, y.d].map .int) = _
  rw [PySem.W.dataLt_ints]
  unfold lt4
  congr 1
  apply propext
  simp only [List.cons_lt_cons_iff, List.not_lt_nil, and_false, or_false]
def least : T4 → List T4 → T4
  | x, [] => x
  | x, y :: ys => least (if lt4 y x then y else x) ys
theorem minD_e : ∀ (ys : List T4) (x : T4), PySem.W.minD x.e (ys.map T4.e) = (least x ys).e
  | [], _ => rfl
  | y :: ys, x => by
    have h := minD_e ys (if lt4 y x then y else x)
    unfold PySem.W.minD at h ⊢
    rw [List.map_cons, List.foldl_cons, lt4_data]
    unfold least
    rw [← h]
    cases lt4 y x <;> rfl
theorem dat_w : ∀ xs : List T4, datL (xs.map T4.w) = some (xs.map T4.e)
  | [] => rfl
  | x :: r => by
    simp only [List.map_cons, datL, T4.w, dat, dat_w r]
    rfl
theorem noL_w : ∀ xs : List T4, noLs (xs.map T4.w) = true
  | [] => rfl
  | x :: r => by
    simp only [List.map_cons, noLs, T4.w, noL, noL_w r]
    rfl
theorem alike_w (xs : List T4) : alikeB (xs.map T4.e) = true := by
  unfold alikeB
  rw [Bool.and_eq_true, List.all_eq_true, List.all_eq_true]
  refine ⟨fun x hx => List.all_eq_true.mpr fun y hy => ?_, fun x hx => ?_⟩
  · obtain ⟨u, _, rfl⟩ := List.mem_map.mp hx
    obtain ⟨v, _, rfl⟩ := List.mem_map.mp hy
    rfl
  · obtain ⟨u, _, rfl⟩ := List.mem_map.mp hx
    rfl
theorem depth_w : ∀ xs : List T4, PyData.depthAll (xs.map T4.e) ≤ 60
  | [] => by simp [PyData.depthAll]
  | x :: r => by
    have h := depth_w r
    have h2 : x.e.depth ≤ 60 := by simp [T4.e, PyData.depth, PyData.depthAll]
    simp only [List.map_cons, PyData.depthAll]
    omega
theorem best_w (x : T4) (xs : List T4) : bestD false ((x :: xs).map T4.w) = some (least x xs).w := by
  have e1 : intsOf ((x :: xs).map T4.w) = none := rfl
  have e2 : datL ((x :: xs).map T4.w) = some (x.e :: xs.map T4.e) := dat_w (x :: xs)
  have h1 := noL_w (x :: xs)
  have h2 : alikeB (x.e :: xs.map T4.e) = true := alike_w (x :: xs)
  have h3 : PyData.depthAll (x.e :: xs.map T4.e) ≤ 60 := depth_w (x :: xs)
  unfold bestD
  simp only [e1, e2, h1, h2, h3, decide_true, Bool.and_self, if_true]
  rw [if_neg (by decide), minD_e]
  rfl
theorem least_mem : ∀ (ys : List T4) (x : T4), least x ys ∈ x :: ys
  | [], x => List.mem_cons_self
  | y :: ys, x => by
    unfold least
    rcases List.mem_cons.mp (least_mem ys (if lt4 y x then y else x)) with h | h
    · rw [h]
      split
      · exact List.mem_cons_of_mem _ List.mem_cons_self
      · exact List.mem_cons_self
    · exact List.mem_cons_of_mem _ (List.mem_cons_of_mem _ h)
theorem lt4_iff (x y : T4) : lt4 x y = true ↔ (x.a < y.a ∨ (x.a = y.a ∧ (x.b < y.b ∨ (x.b = y.b ∧ (x.c < y.c ∨ (x.c = y.c ∧ x.d < y.d)))))) := decide_eq_true_iff
theorem lt4_trans' {x y z : T4} (h1 : ¬ lt4 y x = true) (h2 : ¬ lt4 z y = true) : ¬ lt4 z x = true := by
  rw [lt4_iff] at *
  omega
theorem least_le : ∀ (ys : List T4) (x : T4), ∀ z ∈ x :: ys, ¬ lt4 z (least x ys) = true
  | [], x, z, hz => by
    have e : z = x := by simpa using hz
    subst e
    unfold least
    rw [lt4_iff]
    omega
  | y :: ys, x, z, hz => by
    unfold least
    have ih := least_le ys (if lt4 y x then y else x)
    have h0 := ih _ List.mem_cons_self
    rcases List.mem_cons.mp hz with rfl | hz
    · refine lt4_trans' h0 ?_
      split
      · rename_i hl
        rw [lt4_iff] at *
        omega
      · rw [lt4_iff]; omega
    · rcases List.mem_cons.mp hz with rfl | hz
      · refine lt4_trans' h0 ?_
        split
        · rw [lt4_iff]; omega
        · rename_i hl
          exact hl
      · exact ih z (List.mem_cons_of_mem _ hz)
theorem lt4_eq {x y : T4} (h1 : ¬ lt4 x y = true) (h2 : ¬ lt4 y x = true) : x = y := by
  rw [lt4_iff] at *
  apply T4.ext' <;> omega
theorem least_same {x y : T4} {xs ys : List T4} (h : ∀ z, z ∈ x :: xs ↔ z ∈ y :: ys) : least x xs = least y ys :=
  lt4_eq (least_le ys y _ ((h _).mp (least_mem xs x))) (least_le xs x _ ((h _).mpr (least_mem ys y)))
/-! ### those like a ring -/
def T4.r1 (x : T4) : T4 := ⟨x.b, x.c, x.d, x.a⟩
def T4.r2 (x : T4) : T4 := ⟨x.c, x.d, x.a, x.b⟩
def T4.r3 (x : T4) : T4 := ⟨x.d, x.a, x.b, x.c⟩
def T4.m (x : T4) : T4 := ⟨x.d, x.c, x.b, x.a⟩
def likes7 (x : T4) : List T4 := [x.r1, x.r2, x.r3, x.m, x.m.r1, x.m.r2, x.m.r3]
def likes (x : T4) : List T4 := x :: likes7 x
def first (x : T4) : T4 := least x (likes7 x)
theorem likes_mem (x y : T4) : y ∈ likes x ↔ (y = x ∨ y = x.r1 ∨ y = x.r2 ∨ y = x.r3 ∨ y = x.m ∨ y = x.m.r1 ∨ y = x.m.r2 ∨ y = x.m.r3) := by simp [likes, likes7]
theorem likes_sym {x y : T4} (h : y ∈ likes x) : x ∈ likes y := by
  rw [likes_mem] at *
  rcases h with rfl | rfl | rfl | rfl | rfl | rfl | rfl | rfl <;> simp [T4.r1, T4.r2, T4.r3, T4.m]
theorem likes_trans {x y z : T4} (h : y ∈ likes x) (h' : z ∈ likes y) : z ∈ likes x := by
  rw [likes_mem] at *
  rcases h with rfl | rfl | rfl | rfl | rfl | rfl | rfl | rfl <;> rcases h' with rfl | rfl | rfl | rfl | rfl | rfl | rfl | rfl <;> simp [T4.r1, T4.r2, T4.r3, T4.m]
theorem first_same {x y : T4} (h : y ∈ likes x) : first y = first x := least_same fun z => ⟨fun hz => likes_trans h hz, fun hz => likes_trans (likes_sym h) hz⟩
theorem first_mem (x : T4) : first x ∈ likes x := least_mem (likes7 x) x
theorem first_iff (x y : T4) : first x = first y ↔ y ∈ likes x := by
  constructor
  · intro h
    have h1 := first_mem x
    have h2 := first_mem y
    rw [← h] at h2
    exact likes_trans h1 (likes_sym h2)
  · intro h
    exact (first_same h).symm
theorem first_spec (a b c d : Int) (S : Store) : F_first_like [t4 a b c d] S = .ok (first ⟨a, b, c, d⟩).w S := by
  have h := best_w ⟨a, b, c, d⟩ (likes7 ⟨a, b, c, d⟩)
  have e : (((⟨a, b, c, d⟩ : T4) :: likes7 ⟨a, b, c, d⟩).map T4.w) = [t4 a b c d, t4 b c d a, t4 c d a b, t4 d a b c, t4 d c b a, t4 c b a d, t4 b a d c, t4 a d c b] := rfl
  rw [e] at h
  simp [F_first_like, b_first_like, Iv.eVar, Iv.eC, Iv.eOp, Iv.eUn, Iv.aNil, Iv.aCons, Iv.eCall, Iv.eTup, Iv.eLst, Iv.eNew, Iv.eAnd, Iv.eOr, Iv.wNot, Iv.bVal, Iv.bAnd, Iv.bOr, Iv.bNot, Iv.eIf, Iv.eChain, Iv.mkTup, Iv.mkLst, Iv.mkNew, Iv.wAdd, Iv.wSub, Iv.wMul, Iv.wFdiv, Iv.wMod, Iv.wPow, Iv.wNeg, Iv.wEq, Iv.wNe, Iv.wLt, Iv.wLe, Iv.wGt, Iv.wGe, Iv.wIs, Iv.wIsNot, Iv.isFlat, Iv.inW, Iv.wIn, Iv.wNotIn, Iv.wIx, Iv.dat, Iv.datL, Iv.datS, Iv.listOf, Iv.seqOf, Iv.stillOf, Iv.oNo, Iv.oSome, Iv.cutW, Iv.wSl, Iv.eSl, Iv.gNm, Iv.gsNil, Iv.gsCons, Iv.gTu, Iv.setAt, Iv.gIx, Iv.sNext, Iv.sSeq, Iv.sIf, Iv.sRet, Iv.sEx, Iv.sAsg, Iv.sRaise, Iv.sBreak, Iv.sCont, Iv.iSeq, Iv.iRg, Iv.iRg2, Iv.forF, Iv.sFor, Iv.gUl, Iv.sPr, Iv.sPr3, Iv.wipeE, Iv.bYes, Iv.lcF, Iv.eLc, Iv.okW, Iv.okWs, Iv.okO, Iv.frzW, Iv.frzWs, Iv.fin, Iv.finX, Iv.finN, Iv.start0, Iv.runF, Iv.runN, Iv.eFn, Iv.bSum, Iv.bSorted, Iv.bLen, Iv.bAbs, Iv.bTuple, Iv.bList, Iv.bListN, Iv.blsOf, Iv.bAll, Iv.bAny, Iv.bInt, Iv.bIsi, Iv.isi, Iv.wRev, Iv.eLm, Iv.mAppend, Iv.mPop, Iv.mPopAt, Iv.lc2F, Iv.eLc2, Iv.Res.bind, Iv.rangeW, Iv.wAddN, Iv.shut_eq, Iv.iZp, Iv.zipW, begun0, begun1, begun2, begun3, bMin, h, first]
def T4.R (x : T4) : Prop := IsR x.a x.b x.c x.d
theorem R_likes {x y : T4} (h : x.R) (hy : y ∈ likes x) : y.R := by
  rw [likes_mem] at hy
  obtain ⟨h1, h2, h3, h4, h5, h6, h7, h8, h9, h10, h11, h12⟩ := h
  rcases hy with rfl | rfl | rfl | rfl | rfl | rfl | rfl | rfl <;> constructor <;> (try simp only [T4.r1, T4.r2, T4.r3, T4.m]) <;> omega
theorem leastlike_ok {x : T4} (h : x.R) (S : Store) : F_least_like [x.w] S = .ok (first x).w S := by
  have e1 := check_ok h S
  have e2 := first_spec x.a x.b x.c x.d S
  simp [F_least_like, b_least_like, Iv.eVar, Iv.eC, Iv.eOp, Iv.eUn, Iv.aNil, Iv.aCons, Iv.eCall, Iv.eTup, Iv.eLst, Iv.eNew, Iv.eAnd, Iv.eOr, Iv.wNot, Iv.bVal, Iv.bAnd, Iv.bOr, Iv.bNot, Iv.eIf, Iv.eChain, Iv.mkTup, Iv.mkLst, Iv.mkNew, Iv.wAdd, Iv.wSub, Iv.wMul, Iv.wFdiv, Iv.wMod, Iv.wPow, Iv.wNeg, Iv.wEq, Iv.wNe, Iv.wLt, Iv.wLe, Iv.wGt, Iv.wGe, Iv.wIs, Iv.wIsNot, Iv.isFlat, Iv.inW, Iv.wIn, Iv.wNotIn, Iv.wIx, Iv.dat, Iv.datL, Iv.datS, Iv.listOf, Iv.seqOf, Iv.stillOf, Iv.oNo, Iv.oSome, Iv.cutW, Iv.wSl, Iv.eSl, Iv.gNm, Iv.gsNil, Iv.gsCons, Iv.gTu, Iv.setAt, Iv.gIx, Iv.sNext, Iv.sSeq, Iv.sIf, Iv.sRet, Iv.sEx, Iv.sAsg, Iv.sRaise, Iv.sBreak, Iv.sCont, Iv.iSeq, Iv.iRg, Iv.iRg2, Iv.forF, Iv.sFor, Iv.gUl, Iv.sPr, Iv.sPr3, Iv.wipeE, Iv.bYes, Iv.lcF, Iv.eLc, Iv.okW, Iv.okWs, Iv.okO, Iv.frzW, Iv.frzWs, Iv.fin, Iv.finX, Iv.finN, Iv.start0, Iv.runF, Iv.runN, Iv.eFn, Iv.bSum, Iv.bSorted, Iv.bLen, Iv.bAbs, Iv.bTuple, Iv.bList, Iv.bListN, Iv.blsOf, Iv.bAll, Iv.bAny, Iv.bInt, Iv.bIsi, Iv.isi, Iv.wRev, Iv.eLm, Iv.mAppend, Iv.mPop, Iv.mPopAt, Iv.lc2F, Iv.eLc2, Iv.Res.bind, Iv.rangeW, Iv.wAddN, Iv.shut_eq, Iv.iZp, Iv.zipW, T4.w] at *
  simp [e1, e2]
end G
end
section
set_option maxHeartbeats 4000000
set_option maxRecDepth 100000
namespace G
open PySem L2 Iv
/-! ### the greatest common divisor -/
def dvC : BF := bVal (eOp wNe (eVar 1) (eC (.int 0)))
def dvB : SF := sPr 0 1 (aCons (eVar 1) (aCons (eOp wMod (eVar 0) (eVar 1)) aNil))
theorem shaped_i (i : Int) : SeqAt.shaped (.int i) = true := rfl
theorem dvC_no (a : Int) (S : Store) : dvC [some (.int a), some (.int 0)] S = .ok false S := by simp [dvC, Iv.eVar, Iv.eC, Iv.eOp, Iv.eUn, Iv.aNil, Iv.aCons, Iv.eCall, Iv.eTup, Iv.eLst, Iv.eNew, Iv.eAnd, Iv.eOr, Iv.wNot, Iv.bVal, Iv.bAnd, Iv.bOr, Iv.bNot, Iv.eIf, Iv.eChain, Iv.mkTup, Iv.mkLst, Iv.mkNew, Iv.wAdd, Iv.wSub, Iv.wMul, Iv.wFdiv, Iv.wMod, Iv.wPow, Iv.wNeg, Iv.wEq, Iv.wNe, Iv.wLt, Iv.wLe, Iv.wGt, Iv.wGe, Iv.wIs, Iv.wIsNot, Iv.isFlat, Iv.inW, Iv.wIn, Iv.wNotIn, Iv.wIx, Iv.dat, Iv.datL, Iv.datS, Iv.listOf, Iv.seqOf, Iv.stillOf, Iv.oNo, Iv.oSome, Iv.cutW, Iv.wSl, Iv.eSl, Iv.gNm, Iv.gsNil, Iv.gsCons, Iv.gTu, Iv.setAt, Iv.gIx, Iv.sNext, Iv.sSeq, Iv.sIf, Iv.sRet, Iv.sEx, Iv.sAsg, Iv.sRaise, Iv.sBreak, Iv.sCont, Iv.iSeq, Iv.iRg, Iv.iRg2, Iv.forF, Iv.sFor, Iv.gUl, Iv.sPr, Iv.sPr3, Iv.wipeE, Iv.bYes, Iv.lcF, Iv.eLc, Iv.okW, Iv.okWs, Iv.okO, Iv.frzW, Iv.frzWs, Iv.fin, Iv.finX, Iv.finN, Iv.start0, Iv.runF, Iv.runN, Iv.eFn, Iv.bSum, Iv.bSorted, Iv.bLen, Iv.bAbs, Iv.bTuple, Iv.bList, Iv.bListN, Iv.blsOf, Iv.bAll, Iv.bAny, Iv.bInt, Iv.bIsi, Iv.isi, Iv.wRev, Iv.eLm, Iv.mAppend, Iv.mPop, Iv.mPopAt, Iv.lc2F, Iv.eLc2, Iv.Res.bind, Iv.rangeW, Iv.wAddN, Iv.shut_eq, Iv.iZp, Iv.zipW, shaped_i, PyData.eqv]
theorem dvC_yes {a b : Int} (h : 0 < b) (S : Store) : dvC [some (.int a), some (.int b)] S = .ok true S := by
  have : b ≠ 0 := by omega
  simp [dvC, Iv.eVar, Iv.eC, Iv.eOp, Iv.eUn, Iv.aNil, Iv.aCons, Iv.eCall, Iv.eTup, Iv.eLst, Iv.eNew, Iv.eAnd, Iv.eOr, Iv.wNot, Iv.bVal, Iv.bAnd, Iv.bOr, Iv.bNot, Iv.eIf, Iv.eChain, Iv.mkTup, Iv.mkLst, Iv.mkNew, Iv.wAdd, Iv.wSub, Iv.wMul, Iv.wFdiv, Iv.wMod, Iv.wPow, Iv.wNeg, Iv.wEq, Iv.wNe, Iv.wLt, Iv.wLe, Iv.wGt, Iv.wGe, Iv.wIs, Iv.wIsNot, Iv.isFlat, Iv.inW, Iv.wIn, Iv.wNotIn, Iv.wIx, Iv.dat, Iv.datL, Iv.datS, Iv.listOf, Iv.seqOf, Iv.stillOf, Iv.oNo, Iv.oSome, Iv.cutW, Iv.wSl, Iv.eSl, Iv.gNm, Iv.gsNil, Iv.gsCons, Iv.gTu, Iv.setAt, Iv.gIx, Iv.sNext, Iv.sSeq, Iv.sIf, Iv.sRet, Iv.sEx, Iv.sAsg, Iv.sRaise, Iv.sBreak, Iv.sCont, Iv.iSeq, Iv.iRg, Iv.iRg2, Iv.forF, Iv.sFor, Iv.gUl, Iv.sPr, Iv.sPr3, Iv.wipeE, Iv.bYes, Iv.lcF, Iv.eLc, Iv.okW, Iv.okWs, Iv.okO, Iv.frzW, Iv.frzWs, Iv.fin, Iv.finX, Iv.finN, Iv.start0, Iv.runF, Iv.runN, Iv.eFn, Iv.bSum, Iv.bSorted, Iv.bLen, Iv.bAbs, Iv.bTuple, Iv.bList, Iv.bListN, Iv.blsOf, Iv.bAll, Iv.bAny, Iv.bInt, Iv.bIsi, Iv.isi, Iv.wRev, Iv.eLm, Iv.mAppend, Iv.mPop, Iv.mPopAt, Iv.lc2F, Iv.eLc2, Iv.Res.bind, Iv.rangeW, Iv.wAddN, Iv.shut_eq, Iv.iZp, Iv.zipW, shaped_i, PyData.eqv, this]
theorem dvB_ok {a b : Int} (h : 0 < b) (S : Store) : dvB [some (.int a), some (.int b)] S = .ok (.nx [some (.int b), some (.int (a % b))]) S := by
  simp [dvB, Iv.eVar, Iv.eC, Iv.eOp, Iv.eUn, Iv.aNil, Iv.aCons, Iv.eCall, Iv.eTup, Iv.eLst, Iv.eNew, Iv.eAnd, Iv.eOr, Iv.wNot, Iv.bVal, Iv.bAnd, Iv.bOr, Iv.bNot, Iv.eIf, Iv.eChain, Iv.mkTup, Iv.mkLst, Iv.mkNew, Iv.wAdd, Iv.wSub, Iv.wMul, Iv.wFdiv, Iv.wMod, Iv.wPow, Iv.wNeg, Iv.wEq, Iv.wNe, Iv.wLt, Iv.wLe, Iv.wGt, Iv.wGe, Iv.wIs, Iv.wIsNot, Iv.isFlat, Iv.inW, Iv.wIn, Iv.wNotIn, Iv.wIx, Iv.dat, Iv.datL, Iv.datS, Iv.listOf, Iv.seqOf, Iv.stillOf, Iv.oNo, Iv.oSome, Iv.cutW, Iv.wSl, Iv.eSl, Iv.gNm, Iv.gsNil, Iv.gsCons, Iv.gTu, Iv.setAt, Iv.gIx, Iv.sNext, Iv.sSeq, Iv.sIf, Iv.sRet, Iv.sEx, Iv.sAsg, Iv.sRaise, Iv.sBreak, Iv.sCont, Iv.iSeq, Iv.iRg, Iv.iRg2, Iv.forF, Iv.sFor, Iv.gUl, Iv.sPr, Iv.sPr3, Iv.wipeE, Iv.bYes, Iv.lcF, Iv.eLc, Iv.okW, Iv.okWs, Iv.okO, Iv.frzW, Iv.frzWs, Iv.fin, Iv.finX, Iv.finN, Iv.start0, Iv.runF, Iv.runN, Iv.eFn, Iv.bSum, Iv.bSorted, Iv.bLen, Iv.bAbs, Iv.bTuple, Iv.bList, Iv.bListN, Iv.blsOf, Iv.bAll, Iv.bAny, Iv.bInt, Iv.bIsi, Iv.isi, Iv.wRev, Iv.eLm, Iv.mAppend, Iv.mPop, Iv.mPopAt, Iv.lc2F, Iv.eLc2, Iv.Res.bind, Iv.rangeW, Iv.wAddN, Iv.shut_eq, Iv.iZp, Iv.zipW, h]
theorem gcd_step (a b : Int) : Int.gcd b (a % b) = Int.gcd a b := by
  rw [Int.gcd_comm, Int.emod_def, Int.sub_eq_add_neg, ← Int.mul_neg]
  simp
theorem div_loop : ∀ (n : Nat) (a b : Int), 0 ≤ b → b < 2 ^ n → ∀ (m : Nat) (S : Store), ∃ g : Int, g.natAbs = Int.gcd a b ∧ whileF dvC dvB (m + 2 * n + 2) [some (.int a), some (.int b)] S = .ok (.nx [some (.int g), some (.int 0)]) S
  | n, a, b, h0, hn, m, S => by
    by_cases hb : b = 0
    · subst hb
      exact ⟨a, by simp, by simp only [whileF, dvC_no, Res.bind]; rfl⟩
    · have hb' : 0 < b := by omega
      have e1 : ∀ k, whileF dvC dvB (k + 1) [some (.int a), some (.int b)] S = whileF dvC dvB k [some (.int b), some (.int (a % b))] S := fun k => by
        rw [whileF, dvC_yes hb']
        simp only [Res.bind, dvB_ok hb', if_true]
      rw [show m + 2 * n + 2 = (m + 2 * n + 1) + 1 from rfl, e1]
      have r0 := Int.emod_nonneg a (by omega : b ≠ 0)
      have r1 := Int.emod_lt_of_pos a hb'
      by_cases hr : a % b = 0
      · refine ⟨b, ?_, ?_⟩
        · rw [← gcd_step, hr]; simp
        · rw [hr, whileF, dvC_no]; rfl
      · have hr' : 0 < a % b := by omega
        have e2 : whileF dvC dvB (m + 2 * n + 1) [some (.int b), some (.int (a % b))] S = whileF dvC dvB (m + 2 * n) [some (.int (a % b)), some (.int (b % (a % b)))] S := by
          rw [whileF, dvC_yes hr']
          simp only [Res.bind, dvB_ok hr', if_true]
        have s0 := Int.emod_nonneg b (by omega : a % b ≠ 0)
        have s1 := Int.emod_lt_of_pos b hr'
        have s2 : 2 * (b % (a % b)) < b := by
          generalize a % b = r at *
          by_cases hh : 2 * r ≤ b
          · omega
          · have q : b % r = (b - r) % r := by simp
            rw [q, Int.emod_eq_of_lt (by omega) (by omega)]
            omega
        match n, hn with
        | 0, hn => exact absurd hn (by omega)
        | n + 1, hn =>
          have hn' : b < 2 * 2 ^ n := by rw [Int.pow_succ] at hn; omega
          obtain ⟨g, hg, hh⟩ := div_loop n (a % b) (b % (a % b)) s0 (by omega) m S
          refine ⟨g, ?_, ?_⟩
          · rw [hg, gcd_step, gcd_step]
          · rw [e2]; exact hh
theorem divisor_spec (a b : Int) (h0 : 0 ≤ b) (h1 : b < 2 ^ 64) (S : Store) : F_divisor [.int a, .int b] S = .ok (.int (Int.gcd a b)) S := by
  obtain ⟨g, hg, hh⟩ := div_loop 64 a b h0 h1 99870 S
  have e : sWhile 100000 (bVal (eOp wNe (eVar 1) (eC (.int 0)))) (sPr 0 1 (aCons (eVar 1) (aCons (eOp wMod (eVar 0) (eVar 1)) aNil))) [some (.int a), some (.int b)] S = .ok (.nx [some (.int g), some (.int 0)]) S := hh
  have e3 : (if g < 0 then -g else g) = (Int.gcd a b : Int) := by rw [← hg]; split <;> omega
  simp [F_divisor, b_divisor, Iv.eVar, Iv.eC, Iv.eOp, Iv.eUn, Iv.aNil, Iv.aCons, Iv.eCall, Iv.eTup, Iv.eLst, Iv.eNew, Iv.eAnd, Iv.eOr, Iv.wNot, Iv.bVal, Iv.bAnd, Iv.bOr, Iv.bNot, Iv.eIf, Iv.eChain, Iv.mkTup, Iv.mkLst, Iv.mkNew, Iv.wAdd, Iv.wSub, Iv.wMul, Iv.wFdiv, Iv.wMod, Iv.wPow, Iv.wNeg, Iv.wEq, Iv.wNe, Iv.wLt, Iv.wLe, Iv.wGt, Iv.wGe, Iv.wIs, Iv.wIsNot, Iv.isFlat, Iv.inW, Iv.wIn, Iv.wNotIn, Iv.wIx, Iv.dat, Iv.datL, Iv.datS, Iv.listOf, Iv.seqOf, Iv.stillOf, Iv.oNo, Iv.oSome, Iv.cutW, Iv.wSl, Iv.eSl, Iv.gNm, Iv.gsNil, Iv.gsCons, Iv.gTu, Iv.setAt, Iv.gIx, Iv.sNext, Iv.sSeq, Iv.sIf, Iv.sRet, Iv.sEx, Iv.sAsg, Iv.sRaise, Iv.sBreak, Iv.sCont, Iv.iSeq, Iv.iRg, Iv.iRg2, Iv.forF, Iv.sFor, Iv.gUl, Iv.sPr, Iv.sPr3, Iv.wipeE, Iv.bYes, Iv.lcF, Iv.eLc, Iv.okW, Iv.okWs, Iv.okO, Iv.frzW, Iv.frzWs, Iv.fin, Iv.finX, Iv.finN, Iv.start0, Iv.runF, Iv.runN, Iv.eFn, Iv.bSum, Iv.bSorted, Iv.bLen, Iv.bAbs, Iv.bTuple, Iv.bList, Iv.bListN, Iv.blsOf, Iv.bAll, Iv.bAny, Iv.bInt, Iv.bIsi, Iv.isi, Iv.wRev, Iv.eLm, Iv.mAppend, Iv.mPop, Iv.mPopAt, Iv.lc2F, Iv.eLc2, Iv.Res.bind, Iv.rangeW, Iv.wAddN, Iv.shut_eq, Iv.iZp, Iv.zipW, e, e3]
/-! ### fractions -/
def fr (t b : Int) : W := .tup [.int (t / (Int.gcd t b : Int)), .int (b / (Int.gcd t b : Int))]
theorem gcd_bd {t b : Int} (h0 : 0 < b) : 0 < (Int.gcd t b : Int) ∧ (Int.gcd t b : Int) ≤ b := by
  constructor
  · have : 0 < Int.gcd t b := Int.gcd_pos_of_ne_zero_right _ (by omega)
    omega
  · exact Int.le_of_dvd h0 (Int.gcd_dvd_right _ _)
theorem fraction_spec (t b : Int) (h0 : 0 < b) (h1 : b < 18446744073709551616) (S : Store) : F_fraction [.int t, .int b] S = .ok (fr t b) S := by
  obtain ⟨g1, g2⟩ := gcd_bd (t := t) h0
  have g3 : (Int.gcd t b : Int) < 18446744073709551616 := by omega
  have g4 : 0 < Int.gcd t b := by omega
  have e := divisor_spec t b (by omega) (by omega) S
  simp [F_fraction, b_fraction, Iv.eVar, Iv.eC, Iv.eOp, Iv.eUn, Iv.aNil, Iv.aCons, Iv.eCall, Iv.eTup, Iv.eLst, Iv.eNew, Iv.eAnd, Iv.eOr, Iv.wNot, Iv.bVal, Iv.bAnd, Iv.bOr, Iv.bNot, Iv.eIf, Iv.eChain, Iv.mkTup, Iv.mkLst, Iv.mkNew, Iv.wAdd, Iv.wSub, Iv.wMul, Iv.wFdiv, Iv.wMod, Iv.wPow, Iv.wNeg, Iv.wEq, Iv.wNe, Iv.wLt, Iv.wLe, Iv.wGt, Iv.wGe, Iv.wIs, Iv.wIsNot, Iv.isFlat, Iv.inW, Iv.wIn, Iv.wNotIn, Iv.wIx, Iv.dat, Iv.datL, Iv.datS, Iv.listOf, Iv.seqOf, Iv.stillOf, Iv.oNo, Iv.oSome, Iv.cutW, Iv.wSl, Iv.eSl, Iv.gNm, Iv.gsNil, Iv.gsCons, Iv.gTu, Iv.setAt, Iv.gIx, Iv.sNext, Iv.sSeq, Iv.sIf, Iv.sRet, Iv.sEx, Iv.sAsg, Iv.sRaise, Iv.sBreak, Iv.sCont, Iv.iSeq, Iv.iRg, Iv.iRg2, Iv.forF, Iv.sFor, Iv.gUl, Iv.sPr, Iv.sPr3, Iv.wipeE, Iv.bYes, Iv.lcF, Iv.eLc, Iv.okW, Iv.okWs, Iv.okO, Iv.frzW, Iv.frzWs, Iv.fin, Iv.finX, Iv.finN, Iv.start0, Iv.runF, Iv.runN, Iv.eFn, Iv.bSum, Iv.bSorted, Iv.bLen, Iv.bAbs, Iv.bTuple, Iv.bList, Iv.bListN, Iv.blsOf, Iv.bAll, Iv.bAny, Iv.bInt, Iv.bIsi, Iv.isi, Iv.wRev, Iv.eLm, Iv.mAppend, Iv.mPop, Iv.mPopAt, Iv.lc2F, Iv.eLc2, Iv.Res.bind, Iv.rangeW, Iv.wAddN, Iv.shut_eq, Iv.iZp, Iv.zipW, e, g1, g3, g4, fr]
end G
end
section
set_option maxHeartbeats 4000000
set_option maxRecDepth 100000
namespace G
open PySem L2 Iv
/-! ### openings -/
def ab (x : Int) : Int := if x < 0 then -x else x
def mx2 (i j : Int) : Int := if j > i then j else i
def mn2 (i j : Int) : Int := if j < i then j else i
theorem bAbs_i (i : Int) (S : Store) : bAbs [.int i] S = .ok (.int (ab i)) S := rfl
theorem bMax_i (i j : Int) (S : Store) : bMax [.int i, .int j] S = .ok (.int (mx2 i j)) S := rfl
theorem bMin_i (i j : Int) (S : Store) : bMin [.int i, .int j] S = .ok (.int (mn2 i j)) S := rfl
theorem wMul_i {i j : Int} (h : mulOk i j) (S : Store) : wMul (.int i) (.int j) S = .ok (.int (i * j)) S := by simp [wMul, h]
def sm (x : Int) : Prop := -18446744073709551616 < x ∧ x < 18446744073709551616
theorem mul_l {x : Int} (h : sm x) (y : Int) : mulOk x y := .inl ⟨h.1, h.2⟩
theorem mul_r {x : Int} (h : sm x) (y : Int) : mulOk y x := .inr ⟨h.1, h.2⟩
def loB (x y z w : Int) : Int := mx2 (ab (x - y)) (ab (z - w))
def hiB (x y z w : Int) : Int := mn2 (x + y) (z + w)
theorem bars0 (a b c d : Int) (S : Store) : F_bars_at [t4 a b c d, .int 0] S = .ok (.tup [.int a, .int b]) S := by simp [F_bars_at, b_bars_at, Iv.eVar, Iv.eC, Iv.eOp, Iv.eUn, Iv.aNil, Iv.aCons, Iv.eCall, Iv.eTup, Iv.eLst, Iv.eNew, Iv.eAnd, Iv.eOr, Iv.wNot, Iv.bVal, Iv.bAnd, Iv.bOr, Iv.bNot, Iv.eIf, Iv.eChain, Iv.mkTup, Iv.mkLst, Iv.mkNew, Iv.wAdd, Iv.wSub, Iv.wMul, Iv.wFdiv, Iv.wMod, Iv.wPow, Iv.wNeg, Iv.wEq, Iv.wNe, Iv.wLt, Iv.wLe, Iv.wGt, Iv.wGe, Iv.wIs, Iv.wIsNot, Iv.isFlat, Iv.inW, Iv.wIn, Iv.wNotIn, Iv.wIx, Iv.dat, Iv.datL, Iv.datS, Iv.listOf, Iv.seqOf, Iv.stillOf, Iv.oNo, Iv.oSome, Iv.cutW, Iv.wSl, Iv.eSl, Iv.gNm, Iv.gsNil, Iv.gsCons, Iv.gTu, Iv.setAt, Iv.gIx, Iv.sNext, Iv.sSeq, Iv.sIf, Iv.sRet, Iv.sEx, Iv.sAsg, Iv.sRaise, Iv.sBreak, Iv.sCont, Iv.iSeq, Iv.iRg, Iv.iRg2, Iv.forF, Iv.sFor, Iv.gUl, Iv.sPr, Iv.sPr3, Iv.wipeE, Iv.bYes, Iv.lcF, Iv.eLc, Iv.okW, Iv.okWs, Iv.okO, Iv.frzW, Iv.frzWs, Iv.fin, Iv.finX, Iv.finN, Iv.start0, Iv.runF, Iv.runN, Iv.eFn, Iv.bSum, Iv.bSorted, Iv.bLen, Iv.bAbs, Iv.bTuple, Iv.bList, Iv.bListN, Iv.blsOf, Iv.bAll, Iv.bAny, Iv.bInt, Iv.bIsi, Iv.isi, Iv.wRev, Iv.eLm, Iv.mAppend, Iv.mPop, Iv.mPopAt, Iv.lc2F, Iv.eLc2, Iv.Res.bind, Iv.rangeW, Iv.wAddN, Iv.shut_eq, Iv.iZp, Iv.zipW, L2.atI, ixN]
theorem bars1 (a b c d : Int) (S : Store) : F_bars_at [t4 a b c d, .int 1] S = .ok (.tup [.int b, .int c]) S := by simp [F_bars_at, b_bars_at, Iv.eVar, Iv.eC, Iv.eOp, Iv.eUn, Iv.aNil, Iv.aCons, Iv.eCall, Iv.eTup, Iv.eLst, Iv.eNew, Iv.eAnd, Iv.eOr, Iv.wNot, Iv.bVal, Iv.bAnd, Iv.bOr, Iv.bNot, Iv.eIf, Iv.eChain, Iv.mkTup, Iv.mkLst, Iv.mkNew, Iv.wAdd, Iv.wSub, Iv.wMul, Iv.wFdiv, Iv.wMod, Iv.wPow, Iv.wNeg, Iv.wEq, Iv.wNe, Iv.wLt, Iv.wLe, Iv.wGt, Iv.wGe, Iv.wIs, Iv.wIsNot, Iv.isFlat, Iv.inW, Iv.wIn, Iv.wNotIn, Iv.wIx, Iv.dat, Iv.datL, Iv.datS, Iv.listOf, Iv.seqOf, Iv.stillOf, Iv.oNo, Iv.oSome, Iv.cutW, Iv.wSl, Iv.eSl, Iv.gNm, Iv.gsNil, Iv.gsCons, Iv.gTu, Iv.setAt, Iv.gIx, Iv.sNext, Iv.sSeq, Iv.sIf, Iv.sRet, Iv.sEx, Iv.sAsg, Iv.sRaise, Iv.sBreak, Iv.sCont, Iv.iSeq, Iv.iRg, Iv.iRg2, Iv.forF, Iv.sFor, Iv.gUl, Iv.sPr, Iv.sPr3, Iv.wipeE, Iv.bYes, Iv.lcF, Iv.eLc, Iv.okW, Iv.okWs, Iv.okO, Iv.frzW, Iv.frzWs, Iv.fin, Iv.finX, Iv.finN, Iv.start0, Iv.runF, Iv.runN, Iv.eFn, Iv.bSum, Iv.bSorted, Iv.bLen, Iv.bAbs, Iv.bTuple, Iv.bList, Iv.bListN, Iv.blsOf, Iv.bAll, Iv.bAny, Iv.bInt, Iv.bIsi, Iv.isi, Iv.wRev, Iv.eLm, Iv.mAppend, Iv.mPop, Iv.mPopAt, Iv.lc2F, Iv.eLc2, Iv.Res.bind, Iv.rangeW, Iv.wAddN, Iv.shut_eq, Iv.iZp, Iv.zipW, L2.atI, ixN]
theorem bars2 (a b c d : Int) (S : Store) : F_bars_at [t4 a b c d, .int 2] S = .ok (.tup [.int c, .int d]) S := by simp [F_bars_at, b_bars_at, Iv.eVar, Iv.eC, Iv.eOp, Iv.eUn, Iv.aNil, Iv.aCons, Iv.eCall, Iv.eTup, Iv.eLst, Iv.eNew, Iv.eAnd, Iv.eOr, Iv.wNot, Iv.bVal, Iv.bAnd, Iv.bOr, Iv.bNot, Iv.eIf, Iv.eChain, Iv.mkTup, Iv.mkLst, Iv.mkNew, Iv.wAdd, Iv.wSub, Iv.wMul, Iv.wFdiv, Iv.wMod, Iv.wPow, Iv.wNeg, Iv.wEq, Iv.wNe, Iv.wLt, Iv.wLe, Iv.wGt, Iv.wGe, Iv.wIs, Iv.wIsNot, Iv.isFlat, Iv.inW, Iv.wIn, Iv.wNotIn, Iv.wIx, Iv.dat, Iv.datL, Iv.datS, Iv.listOf, Iv.seqOf, Iv.stillOf, Iv.oNo, Iv.oSome, Iv.cutW, Iv.wSl, Iv.eSl, Iv.gNm, Iv.gsNil, Iv.gsCons, Iv.gTu, Iv.setAt, Iv.gIx, Iv.sNext, Iv.sSeq, Iv.sIf, Iv.sRet, Iv.sEx, Iv.sAsg, Iv.sRaise, Iv.sBreak, Iv.sCont, Iv.iSeq, Iv.iRg, Iv.iRg2, Iv.forF, Iv.sFor, Iv.gUl, Iv.sPr, Iv.sPr3, Iv.wipeE, Iv.bYes, Iv.lcF, Iv.eLc, Iv.okW, Iv.okWs, Iv.okO, Iv.frzW, Iv.frzWs, Iv.fin, Iv.finX, Iv.finN, Iv.start0, Iv.runF, Iv.runN, Iv.eFn, Iv.bSum, Iv.bSorted, Iv.bLen, Iv.bAbs, Iv.bTuple, Iv.bList, Iv.bListN, Iv.blsOf, Iv.bAll, Iv.bAny, Iv.bInt, Iv.bIsi, Iv.isi, Iv.wRev, Iv.eLm, Iv.mAppend, Iv.mPop, Iv.mPopAt, Iv.lc2F, Iv.eLc2, Iv.Res.bind, Iv.rangeW, Iv.wAddN, Iv.shut_eq, Iv.iZp, Iv.zipW, L2.atI, ixN]
theorem bars3 (a b c d : Int) (S : Store) : F_bars_at [t4 a b c d, .int 3] S = .ok (.tup [.int d, .int a]) S := by simp [F_bars_at, b_bars_at, Iv.eVar, Iv.eC, Iv.eOp, Iv.eUn, Iv.aNil, Iv.aCons, Iv.eCall, Iv.eTup, Iv.eLst, Iv.eNew, Iv.eAnd, Iv.eOr, Iv.wNot, Iv.bVal, Iv.bAnd, Iv.bOr, Iv.bNot, Iv.eIf, Iv.eChain, Iv.mkTup, Iv.mkLst, Iv.mkNew, Iv.wAdd, Iv.wSub, Iv.wMul, Iv.wFdiv, Iv.wMod, Iv.wPow, Iv.wNeg, Iv.wEq, Iv.wNe, Iv.wLt, Iv.wLe, Iv.wGt, Iv.wGe, Iv.wIs, Iv.wIsNot, Iv.isFlat, Iv.inW, Iv.wIn, Iv.wNotIn, Iv.wIx, Iv.dat, Iv.datL, Iv.datS, Iv.listOf, Iv.seqOf, Iv.stillOf, Iv.oNo, Iv.oSome, Iv.cutW, Iv.wSl, Iv.eSl, Iv.gNm, Iv.gsNil, Iv.gsCons, Iv.gTu, Iv.setAt, Iv.gIx, Iv.sNext, Iv.sSeq, Iv.sIf, Iv.sRet, Iv.sEx, Iv.sAsg, Iv.sRaise, Iv.sBreak, Iv.sCont, Iv.iSeq, Iv.iRg, Iv.iRg2, Iv.forF, Iv.sFor, Iv.gUl, Iv.sPr, Iv.sPr3, Iv.wipeE, Iv.bYes, Iv.lcF, Iv.eLc, Iv.okW, Iv.okWs, Iv.okO, Iv.frzW, Iv.frzWs, Iv.fin, Iv.finX, Iv.finN, Iv.start0, Iv.runF, Iv.runN, Iv.eFn, Iv.bSum, Iv.bSorted, Iv.bLen, Iv.bAbs, Iv.bTuple, Iv.bList, Iv.bListN, Iv.blsOf, Iv.bAll, Iv.bAny, Iv.bInt, Iv.bIsi, Iv.isi, Iv.wRev, Iv.eLm, Iv.mAppend, Iv.mPop, Iv.mPopAt, Iv.lc2F, Iv.eLc2, Iv.Res.bind, Iv.rangeW, Iv.wAddN, Iv.shut_eq, Iv.iZp, Iv.zipW, L2.atI, ixN]
theorem fb0 (a b c d : Int) (S : Store) : F_found_bounds [t4 a b c d, .int 0] S = .ok (.tup [.int (loB a b c d), .int (hiB a b c d)]) S := by
  simp [F_found_bounds, b_found_bounds, b_found_bounds_1, Iv.eVar, Iv.eC, Iv.eOp, Iv.eUn, Iv.aNil, Iv.aCons, Iv.eCall, Iv.eTup, Iv.eLst, Iv.eNew, Iv.eAnd, Iv.eOr, Iv.wNot, Iv.bVal, Iv.bAnd, Iv.bOr, Iv.bNot, Iv.eIf, Iv.eChain, Iv.mkTup, Iv.mkLst, Iv.mkNew, Iv.wAdd, Iv.wSub, Iv.wMul, Iv.wFdiv, Iv.wMod, Iv.wPow, Iv.wNeg, Iv.wEq, Iv.wNe, Iv.wLt, Iv.wLe, Iv.wGt, Iv.wGe, Iv.wIs, Iv.wIsNot, Iv.isFlat, Iv.inW, Iv.wIn, Iv.wNotIn, Iv.wIx, Iv.dat, Iv.datL, Iv.datS, Iv.listOf, Iv.seqOf, Iv.stillOf, Iv.oNo, Iv.oSome, Iv.cutW, Iv.wSl, Iv.eSl, Iv.gNm, Iv.gsNil, Iv.gsCons, Iv.gTu, Iv.setAt, Iv.gIx, Iv.sNext, Iv.sSeq, Iv.sIf, Iv.sRet, Iv.sEx, Iv.sAsg, Iv.sRaise, Iv.sBreak, Iv.sCont, Iv.iSeq, Iv.iRg, Iv.iRg2, Iv.forF, Iv.sFor, Iv.gUl, Iv.sPr, Iv.sPr3, Iv.wipeE, Iv.bYes, Iv.lcF, Iv.eLc, Iv.okW, Iv.okWs, Iv.okO, Iv.frzW, Iv.frzWs, Iv.fin, Iv.finX, Iv.finN, Iv.start0, Iv.runF, Iv.runN, Iv.eFn, Iv.bSum, Iv.bSorted, Iv.bLen, Iv.bTuple, Iv.bList, Iv.bListN, Iv.blsOf, Iv.bAll, Iv.bAny, Iv.bInt, Iv.bIsi, Iv.isi, Iv.wRev, Iv.eLm, Iv.mAppend, Iv.mPop, Iv.mPopAt, Iv.lc2F, Iv.eLc2, Iv.Res.bind, Iv.rangeW, Iv.wAddN, Iv.shut_eq, Iv.iZp, Iv.zipW, bars0, bars2, bAbs_i, bMax_i, bMin_i, loB, hiB]
theorem fb1 (a b c d : Int) (S : Store) : F_found_bounds [t4 a b c d, .int 1] S = .ok (.tup [.int (loB b c d a), .int (hiB b c d a)]) S := by
  simp [F_found_bounds, b_found_bounds, b_found_bounds_1, Iv.eVar, Iv.eC, Iv.eOp, Iv.eUn, Iv.aNil, Iv.aCons, Iv.eCall, Iv.eTup, Iv.eLst, Iv.eNew, Iv.eAnd, Iv.eOr, Iv.wNot, Iv.bVal, Iv.bAnd, Iv.bOr, Iv.bNot, Iv.eIf, Iv.eChain, Iv.mkTup, Iv.mkLst, Iv.mkNew, Iv.wAdd, Iv.wSub, Iv.wMul, Iv.wFdiv, Iv.wMod, Iv.wPow, Iv.wNeg, Iv.wEq, Iv.wNe, Iv.wLt, Iv.wLe, Iv.wGt, Iv.wGe, Iv.wIs, Iv.wIsNot, Iv.isFlat, Iv.inW, Iv.wIn, Iv.wNotIn, Iv.wIx, Iv.dat, Iv.datL, Iv.datS, Iv.listOf, Iv.seqOf, Iv.stillOf, Iv.oNo, Iv.oSome, Iv.cutW, Iv.wSl, Iv.eSl, Iv.gNm, Iv.gsNil, Iv.gsCons, Iv.gTu, Iv.setAt, Iv.gIx, Iv.sNext, Iv.sSeq, Iv.sIf, Iv.sRet, Iv.sEx, Iv.sAsg, Iv.sRaise, Iv.sBreak, Iv.sCont, Iv.iSeq, Iv.iRg, Iv.iRg2, Iv.forF, Iv.sFor, Iv.gUl, Iv.sPr, Iv.sPr3, Iv.wipeE, Iv.bYes, Iv.lcF, Iv.eLc, Iv.okW, Iv.okWs, Iv.okO, Iv.frzW, Iv.frzWs, Iv.fin, Iv.finX, Iv.finN, Iv.start0, Iv.runF, Iv.runN, Iv.eFn, Iv.bSum, Iv.bSorted, Iv.bLen, Iv.bTuple, Iv.bList, Iv.bListN, Iv.blsOf, Iv.bAll, Iv.bAny, Iv.bInt, Iv.bIsi, Iv.isi, Iv.wRev, Iv.eLm, Iv.mAppend, Iv.mPop, Iv.mPopAt, Iv.lc2F, Iv.eLc2, Iv.Res.bind, Iv.rangeW, Iv.wAddN, Iv.shut_eq, Iv.iZp, Iv.zipW, bars1, bars3, bAbs_i, bMax_i, bMin_i, loB, hiB]
theorem bounds0 {a b c d : Int} (h : IsR a b c d) (S : Store) : F_bounds [t4 a b c d, .int 0] S = .ok (.tup [.int (loB a b c d), .int (hiB a b c d)]) S := by
  simp [F_bounds, b_bounds, b_bounds_1, Iv.eVar, Iv.eC, Iv.eOp, Iv.eUn, Iv.aNil, Iv.aCons, Iv.eCall, Iv.eTup, Iv.eLst, Iv.eNew, Iv.eAnd, Iv.eOr, Iv.wNot, Iv.bVal, Iv.bAnd, Iv.bOr, Iv.bNot, Iv.eIf, Iv.eChain, Iv.mkTup, Iv.mkLst, Iv.mkNew, Iv.wAdd, Iv.wSub, Iv.wMul, Iv.wFdiv, Iv.wMod, Iv.wPow, Iv.wNeg, Iv.wEq, Iv.wNe, Iv.wLt, Iv.wLe, Iv.wGt, Iv.wGe, Iv.wIs, Iv.wIsNot, Iv.isFlat, Iv.inW, Iv.wIn, Iv.wNotIn, Iv.wIx, Iv.dat, Iv.datL, Iv.datS, Iv.listOf, Iv.seqOf, Iv.stillOf, Iv.oNo, Iv.oSome, Iv.cutW, Iv.wSl, Iv.eSl, Iv.gNm, Iv.gsNil, Iv.gsCons, Iv.gTu, Iv.setAt, Iv.gIx, Iv.sNext, Iv.sSeq, Iv.sIf, Iv.sRet, Iv.sEx, Iv.sAsg, Iv.sRaise, Iv.sBreak, Iv.sCont, Iv.iSeq, Iv.iRg, Iv.iRg2, Iv.forF, Iv.sFor, Iv.gUl, Iv.sPr, Iv.sPr3, Iv.wipeE, Iv.bYes, Iv.lcF, Iv.eLc, Iv.okW, Iv.okWs, Iv.okO, Iv.frzW, Iv.frzWs, Iv.fin, Iv.finX, Iv.finN, Iv.start0, Iv.runF, Iv.runN, Iv.eFn, Iv.bSum, Iv.bSorted, Iv.bLen, Iv.bAbs, Iv.bTuple, Iv.bList, Iv.bListN, Iv.blsOf, Iv.bAll, Iv.bAny, Iv.bInt, Iv.bIsi, Iv.isi, Iv.wRev, Iv.eLm, Iv.mAppend, Iv.mPop, Iv.mPopAt, Iv.lc2F, Iv.eLc2, Iv.Res.bind, Iv.rangeW, Iv.wAddN, Iv.shut_eq, Iv.iZp, Iv.zipW, check_ok h, number_ok, fb0]
theorem bounds1 {a b c d : Int} (h : IsR a b c d) (S : Store) : F_bounds [t4 a b c d, .int 1] S = .ok (.tup [.int (loB b c d a), .int (hiB b c d a)]) S := by
  simp [F_bounds, b_bounds, b_bounds_1, Iv.eVar, Iv.eC, Iv.eOp, Iv.eUn, Iv.aNil, Iv.aCons, Iv.eCall, Iv.eTup, Iv.eLst, Iv.eNew, Iv.eAnd, Iv.eOr, Iv.wNot, Iv.bVal, Iv.bAnd, Iv.bOr, Iv.bNot, Iv.eIf, Iv.eChain, Iv.mkTup, Iv.mkLst, Iv.mkNew, Iv.wAdd, Iv.wSub, Iv.wMul, Iv.wFdiv, Iv.wMod, Iv.wPow, Iv.wNeg, Iv.wEq, Iv.wNe, Iv.wLt, Iv.wLe, Iv.wGt, Iv.wGe, Iv.wIs, Iv.wIsNot, Iv.isFlat, Iv.inW, Iv.wIn, Iv.wNotIn, Iv.wIx, Iv.dat, Iv.datL, Iv.datS, Iv.listOf, Iv.seqOf, Iv.stillOf, Iv.oNo, Iv.oSome, Iv.cutW, Iv.wSl, Iv.eSl, Iv.gNm, Iv.gsNil, Iv.gsCons, Iv.gTu, Iv.setAt, Iv.gIx, Iv.sNext, Iv.sSeq, Iv.sIf, Iv.sRet, Iv.sEx, Iv.sAsg, Iv.sRaise, Iv.sBreak, Iv.sCont, Iv.iSeq, Iv.iRg, Iv.iRg2, Iv.forF, Iv.sFor, Iv.gUl, Iv.sPr, Iv.sPr3, Iv.wipeE, Iv.bYes, Iv.lcF, Iv.eLc, Iv.okW, Iv.okWs, Iv.okO, Iv.frzW, Iv.frzWs, Iv.fin, Iv.finX, Iv.finN, Iv.start0, Iv.runF, Iv.runN, Iv.eFn, Iv.bSum, Iv.bSorted, Iv.bLen, Iv.bAbs, Iv.bTuple, Iv.bList, Iv.bListN, Iv.blsOf, Iv.bAll, Iv.bAny, Iv.bInt, Iv.bIsi, Iv.isi, Iv.wRev, Iv.eLm, Iv.mAppend, Iv.mPop, Iv.mPopAt, Iv.lc2F, Iv.eLc2, Iv.Res.bind, Iv.rangeW, Iv.wAddN, Iv.shut_eq, Iv.iZp, Iv.zipW, check_ok h, number_ok, fb1]
theorem ab_eq (x : Int) : ab x = if x < 0 then -x else x := rfl
theorem loB_sw (x y z w : Int) : loB z w x y = loB x y z w := by simp only [loB, mx2, ab_eq]; omega
theorem loB_mi (x y z w : Int) : loB y x w z = loB x y z w := by simp only [loB, mx2, ab_eq]; omega
theorem hiB_sw (x y z w : Int) : hiB z w x y = hiB x y z w := by simp only [hiB, mn2]; omega
theorem hiB_mi (x y z w : Int) : hiB y x w z = hiB x y z w := by simp only [hiB, mn2]; omega
/-! ### cosines -/
def cs (x y s : Int) : W := fr (x * x + y * y - s) (2 * x * y)
theorem cs_mi (x y s : Int) : cs y x s = cs x y s := by
  unfold cs
  rw [Int.add_comm (y * y), Int.mul_assoc 2 y x, Int.mul_comm y x, ← Int.mul_assoc]
theorem xy_bd {x y : Int} (h1 : 1 ≤ x) (h2 : x ≤ 50) (h3 : 1 ≤ y) (h4 : y ≤ 50) : 0 < 2 * x * y ∧ 2 * x * y ≤ 5000 := by
  have e : 2 * x * y = 2 * (x * y) := by rw [Int.mul_assoc]
  rw [e]
  have p : 0 < x * y := Int.mul_pos (by omega) (by omega)
  have q : x * y ≤ 50 * 50 := Int.mul_le_mul h2 h4 (by omega) (by omega)
  omega
theorem cosine_aux {R : W} {x y s j : Int} {S : Store} (hb : F_bars_at [R, .int j] S = .ok (.tup [.int x, .int y]) S) (h1 : 1 ≤ x) (h2 : x ≤ 50) (h3 : 1 ≤ y) (h4 : y ≤ 50) : F_cosine [R, .int j, .int s] S = .ok (cs x y s) S := by
  obtain ⟨q1, q2⟩ := xy_bd h1 h2 h3 h4
  have m1 : mulOk x x := mul_l ⟨by omega, by omega⟩ _
  have m2 : mulOk y y := mul_l ⟨by omega, by omega⟩ _
  have m3 : mulOk 2 x := mul_l ⟨by omega, by omega⟩ _
  have m4 : mulOk (2 * x) y := mul_l ⟨by omega, by omega⟩ _
  have e := fraction_spec (x * x + y * y - s) (2 * x * y) q1 (by omega) S
  simp [F_cosine, b_cosine, Iv.eVar, Iv.eC, Iv.eOp, Iv.eUn, Iv.aNil, Iv.aCons, Iv.eCall, Iv.eTup, Iv.eLst, Iv.eNew, Iv.eAnd, Iv.eOr, Iv.wNot, Iv.bVal, Iv.bAnd, Iv.bOr, Iv.bNot, Iv.eIf, Iv.eChain, Iv.mkTup, Iv.mkLst, Iv.mkNew, Iv.wAdd, Iv.wSub, Iv.wFdiv, Iv.wMod, Iv.wPow, Iv.wNeg, Iv.wEq, Iv.wNe, Iv.wLt, Iv.wLe, Iv.wGt, Iv.wGe, Iv.wIs, Iv.wIsNot, Iv.isFlat, Iv.inW, Iv.wIn, Iv.wNotIn, Iv.wIx, Iv.dat, Iv.datL, Iv.datS, Iv.listOf, Iv.seqOf, Iv.stillOf, Iv.oNo, Iv.oSome, Iv.cutW, Iv.wSl, Iv.eSl, Iv.gNm, Iv.gsNil, Iv.gsCons, Iv.gTu, Iv.setAt, Iv.gIx, Iv.sNext, Iv.sSeq, Iv.sIf, Iv.sRet, Iv.sEx, Iv.sAsg, Iv.sRaise, Iv.sBreak, Iv.sCont, Iv.iSeq, Iv.iRg, Iv.iRg2, Iv.forF, Iv.sFor, Iv.gUl, Iv.sPr, Iv.sPr3, Iv.wipeE, Iv.bYes, Iv.lcF, Iv.eLc, Iv.okW, Iv.okWs, Iv.okO, Iv.frzW, Iv.frzWs, Iv.fin, Iv.finX, Iv.finN, Iv.start0, Iv.runF, Iv.runN, Iv.eFn, Iv.bSum, Iv.bSorted, Iv.bLen, Iv.bAbs, Iv.bTuple, Iv.bList, Iv.bListN, Iv.blsOf, Iv.bAll, Iv.bAny, Iv.bInt, Iv.bIsi, Iv.isi, Iv.wRev, Iv.eLm, Iv.mAppend, Iv.mPop, Iv.mPopAt, Iv.lc2F, Iv.eLc2, Iv.Res.bind, Iv.rangeW, Iv.wAddN, Iv.shut_eq, Iv.iZp, Iv.zipW, hb, wMul_i m1, wMul_i m2, wMul_i m3, wMul_i m4, e, cs]
theorem cosine0 {a b c d : Int} (h : IsR a b c d) (s : Int) (S : Store) : F_cosine [t4 a b c d, .int 0, .int s] S = .ok (cs a b s) S := by
  obtain ⟨h1, h2, h3, h4, h5, h6, h7, h8, h9, h10, h11, h12⟩ := h
  exact cosine_aux (bars0 a b c d S) (by omega) (by omega) (by omega) (by omega)
theorem cosine1 {a b c d : Int} (h : IsR a b c d) (s : Int) (S : Store) : F_cosine [t4 a b c d, .int 1, .int s] S = .ok (cs b c s) S := by
  obtain ⟨h1, h2, h3, h4, h5, h6, h7, h8, h9, h10, h11, h12⟩ := h
  exact cosine_aux (bars1 a b c d S) (by omega) (by omega) (by omega) (by omega)
theorem cosine2 {a b c d : Int} (h : IsR a b c d) (s : Int) (S : Store) : F_cosine [t4 a b c d, .int 2, .int s] S = .ok (cs c d s) S := by
  obtain ⟨h1, h2, h3, h4, h5, h6, h7, h8, h9, h10, h11, h12⟩ := h
  exact cosine_aux (bars2 a b c d S) (by omega) (by omega) (by omega) (by omega)
theorem cosine3 {a b c d : Int} (h : IsR a b c d) (s : Int) (S : Store) : F_cosine [t4 a b c d, .int 3, .int s] S = .ok (cs d a s) S := by
  obtain ⟨h1, h2, h3, h4, h5, h6, h7, h8, h9, h10, h11, h12⟩ := h
  exact cosine_aux (bars3 a b c d S) (by omega) (by omega) (by omega) (by omega)
def CS (x y z w : Int) : W := .tup [cs x y (loB x y z w * loB x y z w), cs x y (hiB x y z w * hiB x y z w)]
theorem CS_mi (x y z w : Int) : CS y x w z = CS x y z w := by simp only [CS, loB_mi, hiB_mi, cs_mi]
theorem lo_bd {x y z w : Int} (h1 : 1 ≤ x) (h2 : x ≤ 50) (h3 : 1 ≤ y) (h4 : y ≤ 50) (h5 : 1 ≤ z) (h6 : z ≤ 50) (h7 : 1 ≤ w) (h8 : w ≤ 50) : 0 ≤ loB x y z w ∧ loB x y z w ≤ 49 := by
  simp only [loB, mx2, ab_eq]; omega
theorem hi_bd {x y z w : Int} (h1 : 1 ≤ x) (h2 : x ≤ 50) (h3 : 1 ≤ y) (h4 : y ≤ 50) (h5 : 1 ≤ z) (h6 : z ≤ 50) (h7 : 1 ≤ w) (h8 : w ≤ 50) : 2 ≤ hiB x y z w ∧ hiB x y z w ≤ 100 := by
  simp only [hiB, mn2]; omega
theorem cosof_aux {R : W} {x y z w j k : Int} {S : Store} (hj : j % 2 = k) (hb : F_found_bounds [R, .int k] S = .ok (.tup [.int (loB x y z w), .int (hiB x y z w)]) S) (hc : ∀ s, F_cosine [R, .int j, .int s] S = .ok (cs x y s) S)
    (h1 : 1 ≤ x) (h2 : x ≤ 50) (h3 : 1 ≤ y) (h4 : y ≤ 50) (h5 : 1 ≤ z) (h6 : z ≤ 50) (h7 : 1 ≤ w) (h8 : w ≤ 50) : F_cosines_of [R, .int j] S = .ok (CS x y z w) S := by
  have b1 := lo_bd h1 h2 h3 h4 h5 h6 h7 h8
  have b2 := hi_bd h1 h2 h3 h4 h5 h6 h7 h8
  have m1 : mulOk (loB x y z w) (loB x y z w) := mul_l ⟨by omega, by omega⟩ _
  have m2 : mulOk (hiB x y z w) (hiB x y z w) := mul_l ⟨by omega, by omega⟩ _
  simp [F_cosines_of, b_cosines_of, Iv.eVar, Iv.eC, Iv.eOp, Iv.eUn, Iv.aNil, Iv.aCons, Iv.eCall, Iv.eTup, Iv.eLst, Iv.eNew, Iv.eAnd, Iv.eOr, Iv.wNot, Iv.bVal, Iv.bAnd, Iv.bOr, Iv.bNot, Iv.eIf, Iv.eChain, Iv.mkTup, Iv.mkLst, Iv.mkNew, Iv.wAdd, Iv.wSub, Iv.wFdiv, Iv.wMod, Iv.wPow, Iv.wNeg, Iv.wEq, Iv.wNe, Iv.wLt, Iv.wLe, Iv.wGt, Iv.wGe, Iv.wIs, Iv.wIsNot, Iv.isFlat, Iv.inW, Iv.wIn, Iv.wNotIn, Iv.wIx, Iv.dat, Iv.datL, Iv.datS, Iv.listOf, Iv.seqOf, Iv.stillOf, Iv.oNo, Iv.oSome, Iv.cutW, Iv.wSl, Iv.eSl, Iv.gNm, Iv.gsNil, Iv.gsCons, Iv.gTu, Iv.setAt, Iv.gIx, Iv.sNext, Iv.sSeq, Iv.sIf, Iv.sRet, Iv.sEx, Iv.sAsg, Iv.sRaise, Iv.sBreak, Iv.sCont, Iv.iSeq, Iv.iRg, Iv.iRg2, Iv.forF, Iv.sFor, Iv.gUl, Iv.sPr, Iv.sPr3, Iv.wipeE, Iv.bYes, Iv.lcF, Iv.eLc, Iv.okW, Iv.okWs, Iv.okO, Iv.frzW, Iv.frzWs, Iv.fin, Iv.finX, Iv.finN, Iv.start0, Iv.runF, Iv.runN, Iv.eFn, Iv.bSum, Iv.bSorted, Iv.bLen, Iv.bAbs, Iv.bTuple, Iv.bList, Iv.bListN, Iv.blsOf, Iv.bAll, Iv.bAny, Iv.bInt, Iv.bIsi, Iv.isi, Iv.wRev, Iv.eLm, Iv.mAppend, Iv.mPop, Iv.mPopAt, Iv.lc2F, Iv.eLc2, Iv.Res.bind, Iv.rangeW, Iv.wAddN, Iv.shut_eq, Iv.iZp, Iv.zipW, hj, hb, wMul_i m1, wMul_i m2, hc, CS]
theorem cosof0 {a b c d : Int} (h : IsR a b c d) (S : Store) : F_cosines_of [t4 a b c d, .int 0] S = .ok (CS a b c d) S := by
  have h' := h
  obtain ⟨h1, h2, h3, h4, h5, h6, h7, h8, h9, h10, h11, h12⟩ := h
  exact cosof_aux (k := 0) rfl (fb0 a b c d S) (fun s => cosine0 h' s S) (by omega) (by omega) (by omega) (by omega) (by omega) (by omega) (by omega) (by omega)
theorem cosof1 {a b c d : Int} (h : IsR a b c d) (S : Store) : F_cosines_of [t4 a b c d, .int 1] S = .ok (CS b c d a) S := by
  have h' := h
  obtain ⟨h1, h2, h3, h4, h5, h6, h7, h8, h9, h10, h11, h12⟩ := h
  exact cosof_aux (k := 1) rfl (fb1 a b c d S) (fun s => cosine1 h' s S) (by omega) (by omega) (by omega) (by omega) (by omega) (by omega) (by omega) (by omega)
theorem cosof2 {a b c d : Int} (h : IsR a b c d) (S : Store) : F_cosines_of [t4 a b c d, .int 2] S = .ok (CS c d a b) S := by
  have h' := h
  obtain ⟨h1, h2, h3, h4, h5, h6, h7, h8, h9, h10, h11, h12⟩ := h
  exact cosof_aux (k := 0) rfl (by rw [fb0, loB_sw, hiB_sw]) (fun s => cosine2 h' s S) (by omega) (by omega) (by omega) (by omega) (by omega) (by omega) (by omega) (by omega)
theorem cosof3 {a b c d : Int} (h : IsR a b c d) (S : Store) : F_cosines_of [t4 a b c d, .int 3] S = .ok (CS d a b c) S := by
  have h' := h
  obtain ⟨h1, h2, h3, h4, h5, h6, h7, h8, h9, h10, h11, h12⟩ := h
  exact cosof_aux (k := 1) rfl (by rw [fb1, loB_sw, hiB_sw]) (fun s => cosine3 h' s S) (by omega) (by omega) (by omega) (by omega) (by omega) (by omega) (by omega) (by omega)
theorem cosines0 {a b c d : Int} (h : IsR a b c d) (S : Store) : F_cosines [t4 a b c d, .int 0] S = .ok (CS a b c d) S := by simp [F_cosines, b_cosines, b_cosines_1, Iv.eVar, Iv.eC, Iv.eOp, Iv.eUn, Iv.aNil, Iv.aCons, Iv.eCall, Iv.eTup, Iv.eLst, Iv.eNew, Iv.eAnd, Iv.eOr, Iv.wNot, Iv.bVal, Iv.bAnd, Iv.bOr, Iv.bNot, Iv.eIf, Iv.eChain, Iv.mkTup, Iv.mkLst, Iv.mkNew, Iv.wAdd, Iv.wSub, Iv.wMul, Iv.wFdiv, Iv.wMod, Iv.wPow, Iv.wNeg, Iv.wEq, Iv.wNe, Iv.wLt, Iv.wLe, Iv.wGt, Iv.wGe, Iv.wIs, Iv.wIsNot, Iv.isFlat, Iv.inW, Iv.wIn, Iv.wNotIn, Iv.wIx, Iv.dat, Iv.datL, Iv.datS, Iv.listOf, Iv.seqOf, Iv.stillOf, Iv.oNo, Iv.oSome, Iv.cutW, Iv.wSl, Iv.eSl, Iv.gNm, Iv.gsNil, Iv.gsCons, Iv.gTu, Iv.setAt, Iv.gIx, Iv.sNext, Iv.sSeq, Iv.sIf, Iv.sRet, Iv.sEx, Iv.sAsg, Iv.sRaise, Iv.sBreak, Iv.sCont, Iv.iSeq, Iv.iRg, Iv.iRg2, Iv.forF, Iv.sFor, Iv.gUl, Iv.sPr, Iv.sPr3, Iv.wipeE, Iv.bYes, Iv.lcF, Iv.eLc, Iv.okW, Iv.okWs, Iv.okO, Iv.frzW, Iv.frzWs, Iv.fin, Iv.finX, Iv.finN, Iv.start0, Iv.runF, Iv.runN, Iv.eFn, Iv.bSum, Iv.bSorted, Iv.bLen, Iv.bAbs, Iv.bTuple, Iv.bList, Iv.bListN, Iv.blsOf, Iv.bAll, Iv.bAny, Iv.bInt, Iv.bIsi, Iv.isi, Iv.wRev, Iv.eLm, Iv.mAppend, Iv.mPop, Iv.mPopAt, Iv.lc2F, Iv.eLc2, Iv.Res.bind, Iv.rangeW, Iv.wAddN, Iv.shut_eq, Iv.iZp, Iv.zipW, check_ok h, number_ok, cosof0 h]
theorem cosines1 {a b c d : Int} (h : IsR a b c d) (S : Store) : F_cosines [t4 a b c d, .int 1] S = .ok (CS b c d a) S := by simp [F_cosines, b_cosines, b_cosines_1, Iv.eVar, Iv.eC, Iv.eOp, Iv.eUn, Iv.aNil, Iv.aCons, Iv.eCall, Iv.eTup, Iv.eLst, Iv.eNew, Iv.eAnd, Iv.eOr, Iv.wNot, Iv.bVal, Iv.bAnd, Iv.bOr, Iv.bNot, Iv.eIf, Iv.eChain, Iv.mkTup, Iv.mkLst, Iv.mkNew, Iv.wAdd, Iv.wSub, Iv.wMul, Iv.wFdiv, Iv.wMod, Iv.wPow, Iv.wNeg, Iv.wEq, Iv.wNe, Iv.wLt, Iv.wLe, Iv.wGt, Iv.wGe, Iv.wIs, Iv.wIsNot, Iv.isFlat, Iv.inW, Iv.wIn, Iv.wNotIn, Iv.wIx, Iv.dat, Iv.datL, Iv.datS, Iv.listOf, Iv.seqOf, Iv.stillOf, Iv.oNo, Iv.oSome, Iv.cutW, Iv.wSl, Iv.eSl, Iv.gNm, Iv.gsNil, Iv.gsCons, Iv.gTu, Iv.setAt, Iv.gIx, Iv.sNext, Iv.sSeq, Iv.sIf, Iv.sRet, Iv.sEx, Iv.sAsg, Iv.sRaise, Iv.sBreak, Iv.sCont, Iv.iSeq, Iv.iRg, Iv.iRg2, Iv.forF, Iv.sFor, Iv.gUl, Iv.sPr, Iv.sPr3, Iv.wipeE, Iv.bYes, Iv.lcF, Iv.eLc, Iv.okW, Iv.okWs, Iv.okO, Iv.frzW, Iv.frzWs, Iv.fin, Iv.finX, Iv.finN, Iv.start0, Iv.runF, Iv.runN, Iv.eFn, Iv.bSum, Iv.bSorted, Iv.bLen, Iv.bAbs, Iv.bTuple, Iv.bList, Iv.bListN, Iv.blsOf, Iv.bAll, Iv.bAny, Iv.bInt, Iv.bIsi, Iv.isi, Iv.wRev, Iv.eLm, Iv.mAppend, Iv.mPop, Iv.mPopAt, Iv.lc2F, Iv.eLc2, Iv.Res.bind, Iv.rangeW, Iv.wAddN, Iv.shut_eq, Iv.iZp, Iv.zipW, check_ok h, number_ok, cosof1 h]
theorem cosines2 {a b c d : Int} (h : IsR a b c d) (S : Store) : F_cosines [t4 a b c d, .int 2] S = .ok (CS c d a b) S := by simp [F_cosines, b_cosines, b_cosines_1, Iv.eVar, Iv.eC, Iv.eOp, Iv.eUn, Iv.aNil, Iv.aCons, Iv.eCall, Iv.eTup, Iv.eLst, Iv.eNew, Iv.eAnd, Iv.eOr, Iv.wNot, Iv.bVal, Iv.bAnd, Iv.bOr, Iv.bNot, Iv.eIf, Iv.eChain, Iv.mkTup, Iv.mkLst, Iv.mkNew, Iv.wAdd, Iv.wSub, Iv.wMul, Iv.wFdiv, Iv.wMod, Iv.wPow, Iv.wNeg, Iv.wEq, Iv.wNe, Iv.wLt, Iv.wLe, Iv.wGt, Iv.wGe, Iv.wIs, Iv.wIsNot, Iv.isFlat, Iv.inW, Iv.wIn, Iv.wNotIn, Iv.wIx, Iv.dat, Iv.datL, Iv.datS, Iv.listOf, Iv.seqOf, Iv.stillOf, Iv.oNo, Iv.oSome, Iv.cutW, Iv.wSl, Iv.eSl, Iv.gNm, Iv.gsNil, Iv.gsCons, Iv.gTu, Iv.setAt, Iv.gIx, Iv.sNext, Iv.sSeq, Iv.sIf, Iv.sRet, Iv.sEx, Iv.sAsg, Iv.sRaise, Iv.sBreak, Iv.sCont, Iv.iSeq, Iv.iRg, Iv.iRg2, Iv.forF, Iv.sFor, Iv.gUl, Iv.sPr, Iv.sPr3, Iv.wipeE, Iv.bYes, Iv.lcF, Iv.eLc, Iv.okW, Iv.okWs, Iv.okO, Iv.frzW, Iv.frzWs, Iv.fin, Iv.finX, Iv.finN, Iv.start0, Iv.runF, Iv.runN, Iv.eFn, Iv.bSum, Iv.bSorted, Iv.bLen, Iv.bAbs, Iv.bTuple, Iv.bList, Iv.bListN, Iv.blsOf, Iv.bAll, Iv.bAny, Iv.bInt, Iv.bIsi, Iv.isi, Iv.wRev, Iv.eLm, Iv.mAppend, Iv.mPop, Iv.mPopAt, Iv.lc2F, Iv.eLc2, Iv.Res.bind, Iv.rangeW, Iv.wAddN, Iv.shut_eq, Iv.iZp, Iv.zipW, check_ok h, number_ok, cosof2 h]
theorem cosines3 {a b c d : Int} (h : IsR a b c d) (S : Store) : F_cosines [t4 a b c d, .int 3] S = .ok (CS d a b c) S := by simp [F_cosines, b_cosines, b_cosines_1, Iv.eVar, Iv.eC, Iv.eOp, Iv.eUn, Iv.aNil, Iv.aCons, Iv.eCall, Iv.eTup, Iv.eLst, Iv.eNew, Iv.eAnd, Iv.eOr, Iv.wNot, Iv.bVal, Iv.bAnd, Iv.bOr, Iv.bNot, Iv.eIf, Iv.eChain, Iv.mkTup, Iv.mkLst, Iv.mkNew, Iv.wAdd, Iv.wSub, Iv.wMul, Iv.wFdiv, Iv.wMod, Iv.wPow, Iv.wNeg, Iv.wEq, Iv.wNe, Iv.wLt, Iv.wLe, Iv.wGt, Iv.wGe, Iv.wIs, Iv.wIsNot, Iv.isFlat, Iv.inW, Iv.wIn, Iv.wNotIn, Iv.wIx, Iv.dat, Iv.datL, Iv.datS, Iv.listOf, Iv.seqOf, Iv.stillOf, Iv.oNo, Iv.oSome, Iv.cutW, Iv.wSl, Iv.eSl, Iv.gNm, Iv.gsNil, Iv.gsCons, Iv.gTu, Iv.setAt, Iv.gIx, Iv.sNext, Iv.sSeq, Iv.sIf, Iv.sRet, Iv.sEx, Iv.sAsg, Iv.sRaise, Iv.sBreak, Iv.sCont, Iv.iSeq, Iv.iRg, Iv.iRg2, Iv.forF, Iv.sFor, Iv.gUl, Iv.sPr, Iv.sPr3, Iv.wipeE, Iv.bYes, Iv.lcF, Iv.eLc, Iv.okW, Iv.okWs, Iv.okO, Iv.frzW, Iv.frzWs, Iv.fin, Iv.finX, Iv.finN, Iv.start0, Iv.runF, Iv.runN, Iv.eFn, Iv.bSum, Iv.bSorted, Iv.bLen, Iv.bAbs, Iv.bTuple, Iv.bList, Iv.bListN, Iv.blsOf, Iv.bAll, Iv.bAny, Iv.bInt, Iv.bIsi, Iv.isi, Iv.wRev, Iv.eLm, Iv.mAppend, Iv.mPop, Iv.mPopAt, Iv.lc2F, Iv.eLc2, Iv.Res.bind, Iv.rangeW, Iv.wAddN, Iv.shut_eq, Iv.iZp, Iv.zipW, check_ok h, number_ok, cosof3 h]
/-! ### round joints -/
def rd (x y z w : Int) : Bool := decide (ab (x - y) ≥ ab (z - w)) && decide (x + y ≤ z + w)
theorem rd_mi (x y z w : Int) : rd y x w z = rd x y z w := by
  have e1 : ab (y - x) = ab (x - y) := by simp only [ab_eq]; omega
  have e2 : ab (w - z) = ab (z - w) := by simp only [ab_eq]; omega
  simp only [rd, e1, e2, Int.add_comm y x, Int.add_comm w z]
theorem goes_aux {R : W} {x y z w j k : Int} {S : Store} (hk : (j + 2) % 4 = k) (h1 : F_bars_at [R, .int j] S = .ok (.tup [.int x, .int y]) S) (h2 : F_bars_at [R, .int k] S = .ok (.tup [.int z, .int w]) S) : F_goes_round [R, .int j] S = .ok (.bl (rd x y z w)) S := by
  by_cases h : ab (z - w) ≤ ab (x - y) <;> simp [F_goes_round, b_goes_round, b_goes_round_1, Iv.eVar, Iv.eC, Iv.eOp, Iv.eUn, Iv.aNil, Iv.aCons, Iv.eCall, Iv.eTup, Iv.eLst, Iv.eNew, Iv.eAnd, Iv.eOr, Iv.wNot, Iv.bVal, Iv.bAnd, Iv.bOr, Iv.bNot, Iv.eIf, Iv.eChain, Iv.mkTup, Iv.mkLst, Iv.mkNew, Iv.wAdd, Iv.wSub, Iv.wMul, Iv.wFdiv, Iv.wMod, Iv.wPow, Iv.wNeg, Iv.wEq, Iv.wNe, Iv.wLt, Iv.wLe, Iv.wGt, Iv.wGe, Iv.wIs, Iv.wIsNot, Iv.isFlat, Iv.inW, Iv.wIn, Iv.wNotIn, Iv.wIx, Iv.dat, Iv.datL, Iv.datS, Iv.listOf, Iv.seqOf, Iv.stillOf, Iv.oNo, Iv.oSome, Iv.cutW, Iv.wSl, Iv.eSl, Iv.gNm, Iv.gsNil, Iv.gsCons, Iv.gTu, Iv.setAt, Iv.gIx, Iv.sNext, Iv.sSeq, Iv.sIf, Iv.sRet, Iv.sEx, Iv.sAsg, Iv.sRaise, Iv.sBreak, Iv.sCont, Iv.iSeq, Iv.iRg, Iv.iRg2, Iv.forF, Iv.sFor, Iv.gUl, Iv.sPr, Iv.sPr3, Iv.wipeE, Iv.bYes, Iv.lcF, Iv.eLc, Iv.okW, Iv.okWs, Iv.okO, Iv.frzW, Iv.frzWs, Iv.fin, Iv.finX, Iv.finN, Iv.start0, Iv.runF, Iv.runN, Iv.eFn, Iv.bSum, Iv.bSorted, Iv.bLen, Iv.bTuple, Iv.bList, Iv.bListN, Iv.blsOf, Iv.bAll, Iv.bAny, Iv.bInt, Iv.bIsi, Iv.isi, Iv.wRev, Iv.eLm, Iv.mAppend, Iv.mPop, Iv.mPopAt, Iv.lc2F, Iv.eLc2, Iv.Res.bind, Iv.rangeW, Iv.wAddN, Iv.shut_eq, Iv.iZp, Iv.zipW, h1, hk, h2, bAbs_i, rd, h]
theorem goes0 (a b c d : Int) (S : Store) : F_goes_round [t4 a b c d, .int 0] S = .ok (.bl (rd a b c d)) S := goes_aux rfl (bars0 a b c d S) (bars2 a b c d S)
theorem goes1 (a b c d : Int) (S : Store) : F_goes_round [t4 a b c d, .int 1] S = .ok (.bl (rd b c d a)) S := goes_aux rfl (bars1 a b c d S) (bars3 a b c d S)
theorem goes2 (a b c d : Int) (S : Store) : F_goes_round [t4 a b c d, .int 2] S = .ok (.bl (rd c d a b)) S := goes_aux rfl (bars2 a b c d S) (bars0 a b c d S)
theorem goes3 (a b c d : Int) (S : Store) : F_goes_round [t4 a b c d, .int 3] S = .ok (.bl (rd d a b c)) S := goes_aux rfl (bars3 a b c d S) (bars1 a b c d S)
theorem turns0 {a b c d : Int} (h : IsR a b c d) (S : Store) : F_turns_round [t4 a b c d, .int 0] S = .ok (.bl (rd a b c d)) S := by simp [F_turns_round, b_turns_round, b_turns_round_1, Iv.eVar, Iv.eC, Iv.eOp, Iv.eUn, Iv.aNil, Iv.aCons, Iv.eCall, Iv.eTup, Iv.eLst, Iv.eNew, Iv.eAnd, Iv.eOr, Iv.wNot, Iv.bVal, Iv.bAnd, Iv.bOr, Iv.bNot, Iv.eIf, Iv.eChain, Iv.mkTup, Iv.mkLst, Iv.mkNew, Iv.wAdd, Iv.wSub, Iv.wMul, Iv.wFdiv, Iv.wMod, Iv.wPow, Iv.wNeg, Iv.wEq, Iv.wNe, Iv.wLt, Iv.wLe, Iv.wGt, Iv.wGe, Iv.wIs, Iv.wIsNot, Iv.isFlat, Iv.inW, Iv.wIn, Iv.wNotIn, Iv.wIx, Iv.dat, Iv.datL, Iv.datS, Iv.listOf, Iv.seqOf, Iv.stillOf, Iv.oNo, Iv.oSome, Iv.cutW, Iv.wSl, Iv.eSl, Iv.gNm, Iv.gsNil, Iv.gsCons, Iv.gTu, Iv.setAt, Iv.gIx, Iv.sNext, Iv.sSeq, Iv.sIf, Iv.sRet, Iv.sEx, Iv.sAsg, Iv.sRaise, Iv.sBreak, Iv.sCont, Iv.iSeq, Iv.iRg, Iv.iRg2, Iv.forF, Iv.sFor, Iv.gUl, Iv.sPr, Iv.sPr3, Iv.wipeE, Iv.bYes, Iv.lcF, Iv.eLc, Iv.okW, Iv.okWs, Iv.okO, Iv.frzW, Iv.frzWs, Iv.fin, Iv.finX, Iv.finN, Iv.start0, Iv.runF, Iv.runN, Iv.eFn, Iv.bSum, Iv.bSorted, Iv.bLen, Iv.bAbs, Iv.bTuple, Iv.bList, Iv.bListN, Iv.blsOf, Iv.bAll, Iv.bAny, Iv.bInt, Iv.bIsi, Iv.isi, Iv.wRev, Iv.eLm, Iv.mAppend, Iv.mPop, Iv.mPopAt, Iv.lc2F, Iv.eLc2, Iv.Res.bind, Iv.rangeW, Iv.wAddN, Iv.shut_eq, Iv.iZp, Iv.zipW, check_ok h, number_ok, goes0]
theorem turns1 {a b c d : Int} (h : IsR a b c d) (S : Store) : F_turns_round [t4 a b c d, .int 1] S = .ok (.bl (rd b c d a)) S := by simp [F_turns_round, b_turns_round, b_turns_round_1, Iv.eVar, Iv.eC, Iv.eOp, Iv.eUn, Iv.aNil, Iv.aCons, Iv.eCall, Iv.eTup, Iv.eLst, Iv.eNew, Iv.eAnd, Iv.eOr, Iv.wNot, Iv.bVal, Iv.bAnd, Iv.bOr, Iv.bNot, Iv.eIf, Iv.eChain, Iv.mkTup, Iv.mkLst, Iv.mkNew, Iv.wAdd, Iv.wSub, Iv.wMul, Iv.wFdiv, Iv.wMod, Iv.wPow, Iv.wNeg, Iv.wEq, Iv.wNe, Iv.wLt, Iv.wLe, Iv.wGt, Iv.wGe, Iv.wIs, Iv.wIsNot, Iv.isFlat, Iv.inW, Iv.wIn, Iv.wNotIn, Iv.wIx, Iv.dat, Iv.datL, Iv.datS, Iv.listOf, Iv.seqOf, Iv.stillOf, Iv.oNo, Iv.oSome, Iv.cutW, Iv.wSl, Iv.eSl, Iv.gNm, Iv.gsNil, Iv.gsCons, Iv.gTu, Iv.setAt, Iv.gIx, Iv.sNext, Iv.sSeq, Iv.sIf, Iv.sRet, Iv.sEx, Iv.sAsg, Iv.sRaise, Iv.sBreak, Iv.sCont, Iv.iSeq, Iv.iRg, Iv.iRg2, Iv.forF, Iv.sFor, Iv.gUl, Iv.sPr, Iv.sPr3, Iv.wipeE, Iv.bYes, Iv.lcF, Iv.eLc, Iv.okW, Iv.okWs, Iv.okO, Iv.frzW, Iv.frzWs, Iv.fin, Iv.finX, Iv.finN, Iv.start0, Iv.runF, Iv.runN, Iv.eFn, Iv.bSum, Iv.bSorted, Iv.bLen, Iv.bAbs, Iv.bTuple, Iv.bList, Iv.bListN, Iv.blsOf, Iv.bAll, Iv.bAny, Iv.bInt, Iv.bIsi, Iv.isi, Iv.wRev, Iv.eLm, Iv.mAppend, Iv.mPop, Iv.mPopAt, Iv.lc2F, Iv.eLc2, Iv.Res.bind, Iv.rangeW, Iv.wAddN, Iv.shut_eq, Iv.iZp, Iv.zipW, check_ok h, number_ok, goes1]
theorem turns2 {a b c d : Int} (h : IsR a b c d) (S : Store) : F_turns_round [t4 a b c d, .int 2] S = .ok (.bl (rd c d a b)) S := by simp [F_turns_round, b_turns_round, b_turns_round_1, Iv.eVar, Iv.eC, Iv.eOp, Iv.eUn, Iv.aNil, Iv.aCons, Iv.eCall, Iv.eTup, Iv.eLst, Iv.eNew, Iv.eAnd, Iv.eOr, Iv.wNot, Iv.bVal, Iv.bAnd, Iv.bOr, Iv.bNot, Iv.eIf, Iv.eChain, Iv.mkTup, Iv.mkLst, Iv.mkNew, Iv.wAdd, Iv.wSub, Iv.wMul, Iv.wFdiv, Iv.wMod, Iv.wPow, Iv.wNeg, Iv.wEq, Iv.wNe, Iv.wLt, Iv.wLe, Iv.wGt, Iv.wGe, Iv.wIs, Iv.wIsNot, Iv.isFlat, Iv.inW, Iv.wIn, Iv.wNotIn, Iv.wIx, Iv.dat, Iv.datL, Iv.datS, Iv.listOf, Iv.seqOf, Iv.stillOf, Iv.oNo, Iv.oSome, Iv.cutW, Iv.wSl, Iv.eSl, Iv.gNm, Iv.gsNil, Iv.gsCons, Iv.gTu, Iv.setAt, Iv.gIx, Iv.sNext, Iv.sSeq, Iv.sIf, Iv.sRet, Iv.sEx, Iv.sAsg, Iv.sRaise, Iv.sBreak, Iv.sCont, Iv.iSeq, Iv.iRg, Iv.iRg2, Iv.forF, Iv.sFor, Iv.gUl, Iv.sPr, Iv.sPr3, Iv.wipeE, Iv.bYes, Iv.lcF, Iv.eLc, Iv.okW, Iv.okWs, Iv.okO, Iv.frzW, Iv.frzWs, Iv.fin, Iv.finX, Iv.finN, Iv.start0, Iv.runF, Iv.runN, Iv.eFn, Iv.bSum, Iv.bSorted, Iv.bLen, Iv.bAbs, Iv.bTuple, Iv.bList, Iv.bListN, Iv.blsOf, Iv.bAll, Iv.bAny, Iv.bInt, Iv.bIsi, Iv.isi, Iv.wRev, Iv.eLm, Iv.mAppend, Iv.mPop, Iv.mPopAt, Iv.lc2F, Iv.eLc2, Iv.Res.bind, Iv.rangeW, Iv.wAddN, Iv.shut_eq, Iv.iZp, Iv.zipW, check_ok h, number_ok, goes2]
theorem turns3 {a b c d : Int} (h : IsR a b c d) (S : Store) : F_turns_round [t4 a b c d, .int 3] S = .ok (.bl (rd d a b c)) S := by simp [F_turns_round, b_turns_round, b_turns_round_1, Iv.eVar, Iv.eC, Iv.eOp, Iv.eUn, Iv.aNil, Iv.aCons, Iv.eCall, Iv.eTup, Iv.eLst, Iv.eNew, Iv.eAnd, Iv.eOr, Iv.wNot, Iv.bVal, Iv.bAnd, Iv.bOr, Iv.bNot, Iv.eIf, Iv.eChain, Iv.mkTup, Iv.mkLst, Iv.mkNew, Iv.wAdd, Iv.wSub, Iv.wMul, Iv.wFdiv, Iv.wMod, Iv.wPow, Iv.wNeg, Iv.wEq, Iv.wNe, Iv.wLt, Iv.wLe, Iv.wGt, Iv.wGe, Iv.wIs, Iv.wIsNot, Iv.isFlat, Iv.inW, Iv.wIn, Iv.wNotIn, Iv.wIx, Iv.dat, Iv.datL, Iv.datS, Iv.listOf, Iv.seqOf, Iv.stillOf, Iv.oNo, Iv.oSome, Iv.cutW, Iv.wSl, Iv.eSl, Iv.gNm, Iv.gsNil, Iv.gsCons, Iv.gTu, Iv.setAt, Iv.gIx, Iv.sNext, Iv.sSeq, Iv.sIf, Iv.sRet, Iv.sEx, Iv.sAsg, Iv.sRaise, Iv.sBreak, Iv.sCont, Iv.iSeq, Iv.iRg, Iv.iRg2, Iv.forF, Iv.sFor, Iv.gUl, Iv.sPr, Iv.sPr3, Iv.wipeE, Iv.bYes, Iv.lcF, Iv.eLc, Iv.okW, Iv.okWs, Iv.okO, Iv.frzW, Iv.frzWs, Iv.fin, Iv.finX, Iv.finN, Iv.start0, Iv.runF, Iv.runN, Iv.eFn, Iv.bSum, Iv.bSorted, Iv.bLen, Iv.bAbs, Iv.bTuple, Iv.bList, Iv.bListN, Iv.blsOf, Iv.bAll, Iv.bAny, Iv.bInt, Iv.bIsi, Iv.isi, Iv.wRev, Iv.eLm, Iv.mAppend, Iv.mPop, Iv.mPopAt, Iv.lc2F, Iv.eLc2, Iv.Res.bind, Iv.rangeW, Iv.wAddN, Iv.shut_eq, Iv.iZp, Iv.zipW, check_ok h, number_ok, goes3]
end G
end
section
set_option maxHeartbeats 4000000
set_option maxRecDepth 100000
namespace G
open PySem L2 Iv
/-! ### neighbours -/
def nbI (l : List Int) (bs : List Bool) : List Int := ((l.zip bs).filter (·.2)).map (·.1)
def nb0 (a b c d : Int) : W := .tup ((nbI [1, 3] [rd a b c d, rd d a b c]).map .int)
def nb1 (a b c d : Int) : W := .tup ((nbI [0, 2] [rd a b c d, rd b c d a]).map .int)
def nb2 (a b c d : Int) : W := .tup ((nbI [1, 3] [rd b c d a, rd c d a b]).map .int)
def nb3 (a b c d : Int) : W := .tup ((nbI [0, 2] [rd d a b c, rd c d a b]).map .int)
theorem srt13 : sortI [1, 3] = [1, 3] := by decide +kernel
theorem srt20 : sortI [2, 0] = [0, 2] := by decide +kernel
theorem srt31 : sortI [3, 1] = [1, 3] := by decide +kernel
theorem srt02 : sortI [0, 2] = [0, 2] := by decide +kernel
theorem srt1 (i : Int) : sortI [i] = [i] := rfl
theorem srt0 : sortI [] = [] := by decide +kernel
theorem neigh0 {a b c d : Int} (h : IsR a b c d) (S : Store) : F_round_neighbours [t4 a b c d, .int 0] S = .ok (nb0 a b c d) S := by
  cases h1 : rd a b c d <;> cases h2 : rd d a b c <;> simp [F_round_neighbours, b_round_neighbours, b_round_neighbours_1, b_round_neighbours_2, Iv.eVar, Iv.eC, Iv.eOp, Iv.eUn, Iv.aNil, Iv.aCons, Iv.eCall, Iv.eTup, Iv.eLst, Iv.eNew, Iv.eAnd, Iv.eOr, Iv.wNot, Iv.bVal, Iv.bAnd, Iv.bOr, Iv.bNot, Iv.eIf, Iv.eChain, Iv.mkTup, Iv.mkLst, Iv.mkNew, Iv.wAdd, Iv.wSub, Iv.wMul, Iv.wFdiv, Iv.wMod, Iv.wPow, Iv.wNeg, Iv.wEq, Iv.wNe, Iv.wLt, Iv.wLe, Iv.wGt, Iv.wGe, Iv.wIs, Iv.wIsNot, Iv.isFlat, Iv.inW, Iv.wIn, Iv.wNotIn, Iv.wIx, Iv.dat, Iv.datL, Iv.datS, Iv.listOf, Iv.seqOf, Iv.stillOf, Iv.oNo, Iv.oSome, Iv.cutW, Iv.wSl, Iv.eSl, Iv.gNm, Iv.gsNil, Iv.gsCons, Iv.gTu, Iv.setAt, Iv.gIx, Iv.sNext, Iv.sSeq, Iv.sIf, Iv.sRet, Iv.sEx, Iv.sAsg, Iv.sRaise, Iv.sBreak, Iv.sCont, Iv.iSeq, Iv.iRg, Iv.iRg2, Iv.forF, Iv.sFor, Iv.gUl, Iv.sPr, Iv.sPr3, Iv.wipeE, Iv.bYes, Iv.lcF, Iv.eLc, Iv.okW, Iv.okWs, Iv.okO, Iv.frzW, Iv.frzWs, Iv.fin, Iv.finX, Iv.finN, Iv.start0, Iv.runF, Iv.runN, Iv.eFn, Iv.bSum, Iv.bSorted, Iv.bLen, Iv.bAbs, Iv.bTuple, Iv.bList, Iv.bListN, Iv.blsOf, Iv.bAll, Iv.bAny, Iv.bInt, Iv.bIsi, Iv.isi, Iv.wRev, Iv.eLm, Iv.mAppend, Iv.mPop, Iv.mPopAt, Iv.lc2F, Iv.eLc2, Iv.Res.bind, Iv.rangeW, Iv.wAddN, Iv.shut_eq, Iv.iZp, Iv.zipW, check_ok h, number_ok, goes0, goes3, h1, h2, nb0, nbI, intsOf, srt13, srt20, srt31, srt02, srt1, srt0]
theorem neigh1 {a b c d : Int} (h : IsR a b c d) (S : Store) : F_round_neighbours [t4 a b c d, .int 1] S = .ok (nb1 a b c d) S := by
  cases h1 : rd a b c d <;> cases h2 : rd b c d a <;> simp [F_round_neighbours, b_round_neighbours, b_round_neighbours_1, b_round_neighbours_2, Iv.eVar, Iv.eC, Iv.eOp, Iv.eUn, Iv.aNil, Iv.aCons, Iv.eCall, Iv.eTup, Iv.eLst, Iv.eNew, Iv.eAnd, Iv.eOr, Iv.wNot, Iv.bVal, Iv.bAnd, Iv.bOr, Iv.bNot, Iv.eIf, Iv.eChain, Iv.mkTup, Iv.mkLst, Iv.mkNew, Iv.wAdd, Iv.wSub, Iv.wMul, Iv.wFdiv, Iv.wMod, Iv.wPow, Iv.wNeg, Iv.wEq, Iv.wNe, Iv.wLt, Iv.wLe, Iv.wGt, Iv.wGe, Iv.wIs, Iv.wIsNot, Iv.isFlat, Iv.inW, Iv.wIn, Iv.wNotIn, Iv.wIx, Iv.dat, Iv.datL, Iv.datS, Iv.listOf, Iv.seqOf, Iv.stillOf, Iv.oNo, Iv.oSome, Iv.cutW, Iv.wSl, Iv.eSl, Iv.gNm, Iv.gsNil, Iv.gsCons, Iv.gTu, Iv.setAt, Iv.gIx, Iv.sNext, Iv.sSeq, Iv.sIf, Iv.sRet, Iv.sEx, Iv.sAsg, Iv.sRaise, Iv.sBreak, Iv.sCont, Iv.iSeq, Iv.iRg, Iv.iRg2, Iv.forF, Iv.sFor, Iv.gUl, Iv.sPr, Iv.sPr3, Iv.wipeE, Iv.bYes, Iv.lcF, Iv.eLc, Iv.okW, Iv.okWs, Iv.okO, Iv.frzW, Iv.frzWs, Iv.fin, Iv.finX, Iv.finN, Iv.start0, Iv.runF, Iv.runN, Iv.eFn, Iv.bSum, Iv.bSorted, Iv.bLen, Iv.bAbs, Iv.bTuple, Iv.bList, Iv.bListN, Iv.blsOf, Iv.bAll, Iv.bAny, Iv.bInt, Iv.bIsi, Iv.isi, Iv.wRev, Iv.eLm, Iv.mAppend, Iv.mPop, Iv.mPopAt, Iv.lc2F, Iv.eLc2, Iv.Res.bind, Iv.rangeW, Iv.wAddN, Iv.shut_eq, Iv.iZp, Iv.zipW, check_ok h, number_ok, goes0, goes1, h1, h2, nb1, nbI, intsOf, srt13, srt20, srt31, srt02, srt1, srt0]
theorem neigh2 {a b c d : Int} (h : IsR a b c d) (S : Store) : F_round_neighbours [t4 a b c d, .int 2] S = .ok (nb2 a b c d) S := by
  cases h1 : rd b c d a <;> cases h2 : rd c d a b <;> simp [F_round_neighbours, b_round_neighbours, b_round_neighbours_1, b_round_neighbours_2, Iv.eVar, Iv.eC, Iv.eOp, Iv.eUn, Iv.aNil, Iv.aCons, Iv.eCall, Iv.eTup, Iv.eLst, Iv.eNew, Iv.eAnd, Iv.eOr, Iv.wNot, Iv.bVal, Iv.bAnd, Iv.bOr, Iv.bNot, Iv.eIf, Iv.eChain, Iv.mkTup, Iv.mkLst, Iv.mkNew, Iv.wAdd, Iv.wSub, Iv.wMul, Iv.wFdiv, Iv.wMod, Iv.wPow, Iv.wNeg, Iv.wEq, Iv.wNe, Iv.wLt, Iv.wLe, Iv.wGt, Iv.wGe, Iv.wIs, Iv.wIsNot, Iv.isFlat, Iv.inW, Iv.wIn, Iv.wNotIn, Iv.wIx, Iv.dat, Iv.datL, Iv.datS, Iv.listOf, Iv.seqOf, Iv.stillOf, Iv.oNo, Iv.oSome, Iv.cutW, Iv.wSl, Iv.eSl, Iv.gNm, Iv.gsNil, Iv.gsCons, Iv.gTu, Iv.setAt, Iv.gIx, Iv.sNext, Iv.sSeq, Iv.sIf, Iv.sRet, Iv.sEx, Iv.sAsg, Iv.sRaise, Iv.sBreak, Iv.sCont, Iv.iSeq, Iv.iRg, Iv.iRg2, Iv.forF, Iv.sFor, Iv.gUl, Iv.sPr, Iv.sPr3, Iv.wipeE, Iv.bYes, Iv.lcF, Iv.eLc, Iv.okW, Iv.okWs, Iv.okO, Iv.frzW, Iv.frzWs, Iv.fin, Iv.finX, Iv.finN, Iv.start0, Iv.runF, Iv.runN, Iv.eFn, Iv.bSum, Iv.bSorted, Iv.bLen, Iv.bAbs, Iv.bTuple, Iv.bList, Iv.bListN, Iv.blsOf, Iv.bAll, Iv.bAny, Iv.bInt, Iv.bIsi, Iv.isi, Iv.wRev, Iv.eLm, Iv.mAppend, Iv.mPop, Iv.mPopAt, Iv.lc2F, Iv.eLc2, Iv.Res.bind, Iv.rangeW, Iv.wAddN, Iv.shut_eq, Iv.iZp, Iv.zipW, check_ok h, number_ok, goes2, goes1, h1, h2, nb2, nbI, intsOf, srt13, srt20, srt31, srt02, srt1, srt0]
theorem neigh3 {a b c d : Int} (h : IsR a b c d) (S : Store) : F_round_neighbours [t4 a b c d, .int 3] S = .ok (nb3 a b c d) S := by
  cases h1 : rd d a b c <;> cases h2 : rd c d a b <;> simp [F_round_neighbours, b_round_neighbours, b_round_neighbours_1, b_round_neighbours_2, Iv.eVar, Iv.eC, Iv.eOp, Iv.eUn, Iv.aNil, Iv.aCons, Iv.eCall, Iv.eTup, Iv.eLst, Iv.eNew, Iv.eAnd, Iv.eOr, Iv.wNot, Iv.bVal, Iv.bAnd, Iv.bOr, Iv.bNot, Iv.eIf, Iv.eChain, Iv.mkTup, Iv.mkLst, Iv.mkNew, Iv.wAdd, Iv.wSub, Iv.wMul, Iv.wFdiv, Iv.wMod, Iv.wPow, Iv.wNeg, Iv.wEq, Iv.wNe, Iv.wLt, Iv.wLe, Iv.wGt, Iv.wGe, Iv.wIs, Iv.wIsNot, Iv.isFlat, Iv.inW, Iv.wIn, Iv.wNotIn, Iv.wIx, Iv.dat, Iv.datL, Iv.datS, Iv.listOf, Iv.seqOf, Iv.stillOf, Iv.oNo, Iv.oSome, Iv.cutW, Iv.wSl, Iv.eSl, Iv.gNm, Iv.gsNil, Iv.gsCons, Iv.gTu, Iv.setAt, Iv.gIx, Iv.sNext, Iv.sSeq, Iv.sIf, Iv.sRet, Iv.sEx, Iv.sAsg, Iv.sRaise, Iv.sBreak, Iv.sCont, Iv.iSeq, Iv.iRg, Iv.iRg2, Iv.forF, Iv.sFor, Iv.gUl, Iv.sPr, Iv.sPr3, Iv.wipeE, Iv.bYes, Iv.lcF, Iv.eLc, Iv.okW, Iv.okWs, Iv.okO, Iv.frzW, Iv.frzWs, Iv.fin, Iv.finX, Iv.finN, Iv.start0, Iv.runF, Iv.runN, Iv.eFn, Iv.bSum, Iv.bSorted, Iv.bLen, Iv.bAbs, Iv.bTuple, Iv.bList, Iv.bListN, Iv.blsOf, Iv.bAll, Iv.bAny, Iv.bInt, Iv.bIsi, Iv.isi, Iv.wRev, Iv.eLm, Iv.mAppend, Iv.mPop, Iv.mPopAt, Iv.lc2F, Iv.eLc2, Iv.Res.bind, Iv.rangeW, Iv.wAddN, Iv.shut_eq, Iv.iZp, Iv.zipW, check_ok h, number_ok, goes2, goes3, h1, h2, nb3, nbI, intsOf, srt13, srt20, srt31, srt02, srt1, srt0]
/-! ### positions -/
def hp (x y z w s : Int) : Bool := decide (loB x y z w * loB x y z w ≤ s) && decide (s ≤ hiB x y z w * hiB x y z w)
theorem hp_sw (x y z w s : Int) : hp z w x y s = hp x y z w s := by simp only [hp, loB_sw, hiB_sw]
theorem hp_mi (x y z w s : Int) : hp y x w z s = hp x y z w s := by simp only [hp, loB_mi, hiB_mi]
theorem three_ok {a b c d k s : Int} (h : IsR a b c d) (h0 : 0 ≤ k) (h1 : k ≤ 1) (h2 : 0 ≤ s) (h3 : s ≤ 10000) (S : Store) : F_check_three [t4 a b c d, .int k, .int s] S = .ok .non S := by
  simp [F_check_three, b_check_three, b_check_three_1, Iv.eVar, Iv.eC, Iv.eOp, Iv.eUn, Iv.aNil, Iv.aCons, Iv.eCall, Iv.eTup, Iv.eLst, Iv.eNew, Iv.eAnd, Iv.eOr, Iv.wNot, Iv.bVal, Iv.bAnd, Iv.bOr, Iv.bNot, Iv.eIf, Iv.eChain, Iv.mkTup, Iv.mkLst, Iv.mkNew, Iv.wAdd, Iv.wSub, Iv.wMul, Iv.wFdiv, Iv.wMod, Iv.wPow, Iv.wNeg, Iv.wEq, Iv.wNe, Iv.wLt, Iv.wLe, Iv.wGt, Iv.wGe, Iv.wIs, Iv.wIsNot, Iv.isFlat, Iv.inW, Iv.wIn, Iv.wNotIn, Iv.wIx, Iv.dat, Iv.datL, Iv.datS, Iv.listOf, Iv.seqOf, Iv.stillOf, Iv.oNo, Iv.oSome, Iv.cutW, Iv.wSl, Iv.eSl, Iv.gNm, Iv.gsNil, Iv.gsCons, Iv.gTu, Iv.setAt, Iv.gIx, Iv.sNext, Iv.sSeq, Iv.sIf, Iv.sRet, Iv.sEx, Iv.sAsg, Iv.sRaise, Iv.sBreak, Iv.sCont, Iv.iSeq, Iv.iRg, Iv.iRg2, Iv.forF, Iv.sFor, Iv.gUl, Iv.sPr, Iv.sPr3, Iv.wipeE, Iv.bYes, Iv.lcF, Iv.eLc, Iv.okW, Iv.okWs, Iv.okO, Iv.frzW, Iv.frzWs, Iv.fin, Iv.finX, Iv.finN, Iv.start0, Iv.runF, Iv.runN, Iv.eFn, Iv.bSum, Iv.bSorted, Iv.bLen, Iv.bAbs, Iv.bTuple, Iv.bList, Iv.bListN, Iv.blsOf, Iv.bAll, Iv.bAny, Iv.bInt, Iv.bIsi, Iv.isi, Iv.wRev, Iv.eLm, Iv.mAppend, Iv.mPop, Iv.mPopAt, Iv.lc2F, Iv.eLc2, Iv.Res.bind, Iv.rangeW, Iv.wAddN, Iv.shut_eq, Iv.iZp, Iv.zipW, check_ok h, number_ok, h0, h1, h2, h3]
theorem canbe_aux {R : W} {x y z w k s : Int} {S : Store} (hb : F_found_bounds [R, .int k] S = .ok (.tup [.int (loB x y z w), .int (hiB x y z w)]) S)
    (h1 : 1 ≤ x) (h2 : x ≤ 50) (h3 : 1 ≤ y) (h4 : y ≤ 50) (h5 : 1 ≤ z) (h6 : z ≤ 50) (h7 : 1 ≤ w) (h8 : w ≤ 50) : F_can_be [R, .int k, .int s] S = .ok (.bl (hp x y z w s)) S := by
  have b1 := lo_bd h1 h2 h3 h4 h5 h6 h7 h8
  have b2 := hi_bd h1 h2 h3 h4 h5 h6 h7 h8
  have m1 : mulOk (loB x y z w) (loB x y z w) := mul_l ⟨by omega, by omega⟩ _
  have m2 : mulOk (hiB x y z w) (hiB x y z w) := mul_l ⟨by omega, by omega⟩ _
  by_cases q : loB x y z w * loB x y z w ≤ s <;> simp [F_can_be, b_can_be, Iv.eVar, Iv.eC, Iv.eOp, Iv.eUn, Iv.aNil, Iv.aCons, Iv.eCall, Iv.eTup, Iv.eLst, Iv.eNew, Iv.eAnd, Iv.eOr, Iv.wNot, Iv.bVal, Iv.bAnd, Iv.bOr, Iv.bNot, Iv.eIf, Iv.eChain, Iv.mkTup, Iv.mkLst, Iv.mkNew, Iv.wAdd, Iv.wSub, Iv.wFdiv, Iv.wMod, Iv.wPow, Iv.wNeg, Iv.wEq, Iv.wNe, Iv.wLt, Iv.wLe, Iv.wGt, Iv.wGe, Iv.wIs, Iv.wIsNot, Iv.isFlat, Iv.inW, Iv.wIn, Iv.wNotIn, Iv.wIx, Iv.dat, Iv.datL, Iv.datS, Iv.listOf, Iv.seqOf, Iv.stillOf, Iv.oNo, Iv.oSome, Iv.cutW, Iv.wSl, Iv.eSl, Iv.gNm, Iv.gsNil, Iv.gsCons, Iv.gTu, Iv.setAt, Iv.gIx, Iv.sNext, Iv.sSeq, Iv.sIf, Iv.sRet, Iv.sEx, Iv.sAsg, Iv.sRaise, Iv.sBreak, Iv.sCont, Iv.iSeq, Iv.iRg, Iv.iRg2, Iv.forF, Iv.sFor, Iv.gUl, Iv.sPr, Iv.sPr3, Iv.wipeE, Iv.bYes, Iv.lcF, Iv.eLc, Iv.okW, Iv.okWs, Iv.okO, Iv.frzW, Iv.frzWs, Iv.fin, Iv.finX, Iv.finN, Iv.start0, Iv.runF, Iv.runN, Iv.eFn, Iv.bSum, Iv.bSorted, Iv.bLen, Iv.bAbs, Iv.bTuple, Iv.bList, Iv.bListN, Iv.blsOf, Iv.bAll, Iv.bAny, Iv.bInt, Iv.bIsi, Iv.isi, Iv.wRev, Iv.eLm, Iv.mAppend, Iv.mPop, Iv.mPopAt, Iv.lc2F, Iv.eLc2, Iv.Res.bind, Iv.rangeW, Iv.wAddN, Iv.shut_eq, Iv.iZp, Iv.zipW, hb, wMul_i m1, wMul_i m2, hp, q]
theorem canbe0 {a b c d : Int} (h : IsR a b c d) (s : Int) (S : Store) : F_can_be [t4 a b c d, .int 0, .int s] S = .ok (.bl (hp a b c d s)) S := by
  obtain ⟨h1, h2, h3, h4, h5, h6, h7, h8, h9, h10, h11, h12⟩ := h
  exact canbe_aux (fb0 a b c d S) (by omega) (by omega) (by omega) (by omega) (by omega) (by omega) (by omega) (by omega)
theorem canbe1 {a b c d : Int} (h : IsR a b c d) (s : Int) (S : Store) : F_can_be [t4 a b c d, .int 1, .int s] S = .ok (.bl (hp b c d a s)) S := by
  obtain ⟨h1, h2, h3, h4, h5, h6, h7, h8, h9, h10, h11, h12⟩ := h
  exact canbe_aux (fb1 a b c d S) (by omega) (by omega) (by omega) (by omega) (by omega) (by omega) (by omega) (by omega)
theorem hasp0 {a b c d s : Int} (h : IsR a b c d) (h2 : 0 ≤ s) (h3 : s ≤ 10000) (S : Store) : F_has_position [t4 a b c d, .int 0, .int s] S = .ok (.bl (hp a b c d s)) S := by
  simp [F_has_position, b_has_position, Iv.eVar, Iv.eC, Iv.eOp, Iv.eUn, Iv.aNil, Iv.aCons, Iv.eCall, Iv.eTup, Iv.eLst, Iv.eNew, Iv.eAnd, Iv.eOr, Iv.wNot, Iv.bVal, Iv.bAnd, Iv.bOr, Iv.bNot, Iv.eIf, Iv.eChain, Iv.mkTup, Iv.mkLst, Iv.mkNew, Iv.wAdd, Iv.wSub, Iv.wMul, Iv.wFdiv, Iv.wMod, Iv.wPow, Iv.wNeg, Iv.wEq, Iv.wNe, Iv.wLt, Iv.wLe, Iv.wGt, Iv.wGe, Iv.wIs, Iv.wIsNot, Iv.isFlat, Iv.inW, Iv.wIn, Iv.wNotIn, Iv.wIx, Iv.dat, Iv.datL, Iv.datS, Iv.listOf, Iv.seqOf, Iv.stillOf, Iv.oNo, Iv.oSome, Iv.cutW, Iv.wSl, Iv.eSl, Iv.gNm, Iv.gsNil, Iv.gsCons, Iv.gTu, Iv.setAt, Iv.gIx, Iv.sNext, Iv.sSeq, Iv.sIf, Iv.sRet, Iv.sEx, Iv.sAsg, Iv.sRaise, Iv.sBreak, Iv.sCont, Iv.iSeq, Iv.iRg, Iv.iRg2, Iv.forF, Iv.sFor, Iv.gUl, Iv.sPr, Iv.sPr3, Iv.wipeE, Iv.bYes, Iv.lcF, Iv.eLc, Iv.okW, Iv.okWs, Iv.okO, Iv.frzW, Iv.frzWs, Iv.fin, Iv.finX, Iv.finN, Iv.start0, Iv.runF, Iv.runN, Iv.eFn, Iv.bSum, Iv.bSorted, Iv.bLen, Iv.bAbs, Iv.bTuple, Iv.bList, Iv.bListN, Iv.blsOf, Iv.bAll, Iv.bAny, Iv.bInt, Iv.bIsi, Iv.isi, Iv.wRev, Iv.eLm, Iv.mAppend, Iv.mPop, Iv.mPopAt, Iv.lc2F, Iv.eLc2, Iv.Res.bind, Iv.rangeW, Iv.wAddN, Iv.shut_eq, Iv.iZp, Iv.zipW, three_ok h, h2, h3, canbe0 h]
theorem hasp1 {a b c d s : Int} (h : IsR a b c d) (h2 : 0 ≤ s) (h3 : s ≤ 10000) (S : Store) : F_has_position [t4 a b c d, .int 1, .int s] S = .ok (.bl (hp b c d a s)) S := by
  simp [F_has_position, b_has_position, Iv.eVar, Iv.eC, Iv.eOp, Iv.eUn, Iv.aNil, Iv.aCons, Iv.eCall, Iv.eTup, Iv.eLst, Iv.eNew, Iv.eAnd, Iv.eOr, Iv.wNot, Iv.bVal, Iv.bAnd, Iv.bOr, Iv.bNot, Iv.eIf, Iv.eChain, Iv.mkTup, Iv.mkLst, Iv.mkNew, Iv.wAdd, Iv.wSub, Iv.wMul, Iv.wFdiv, Iv.wMod, Iv.wPow, Iv.wNeg, Iv.wEq, Iv.wNe, Iv.wLt, Iv.wLe, Iv.wGt, Iv.wGe, Iv.wIs, Iv.wIsNot, Iv.isFlat, Iv.inW, Iv.wIn, Iv.wNotIn, Iv.wIx, Iv.dat, Iv.datL, Iv.datS, Iv.listOf, Iv.seqOf, Iv.stillOf, Iv.oNo, Iv.oSome, Iv.cutW, Iv.wSl, Iv.eSl, Iv.gNm, Iv.gsNil, Iv.gsCons, Iv.gTu, Iv.setAt, Iv.gIx, Iv.sNext, Iv.sSeq, Iv.sIf, Iv.sRet, Iv.sEx, Iv.sAsg, Iv.sRaise, Iv.sBreak, Iv.sCont, Iv.iSeq, Iv.iRg, Iv.iRg2, Iv.forF, Iv.sFor, Iv.gUl, Iv.sPr, Iv.sPr3, Iv.wipeE, Iv.bYes, Iv.lcF, Iv.eLc, Iv.okW, Iv.okWs, Iv.okO, Iv.frzW, Iv.frzWs, Iv.fin, Iv.finX, Iv.finN, Iv.start0, Iv.runF, Iv.runN, Iv.eFn, Iv.bSum, Iv.bSorted, Iv.bLen, Iv.bAbs, Iv.bTuple, Iv.bList, Iv.bListN, Iv.blsOf, Iv.bAll, Iv.bAny, Iv.bInt, Iv.bIsi, Iv.isi, Iv.wRev, Iv.eLm, Iv.mAppend, Iv.mPop, Iv.mPopAt, Iv.lc2F, Iv.eLc2, Iv.Res.bind, Iv.rangeW, Iv.wAddN, Iv.shut_eq, Iv.iZp, Iv.zipW, three_ok h, h2, h3, canbe1 h]
theorem chkp0 {a b c d s : Int} (h : IsR a b c d) (h2 : 0 < s) (h3 : s ≤ 10000) (hp : hp a b c d s = true) (S : Store) : F_check_position [t4 a b c d, .int 0, .int s] S = .ok .non S := by
  have h4 : 0 ≤ s := by omega
  have h5 : ¬ s = 0 := by omega
  simp [F_check_position, b_check_position, b_check_position_1, Iv.eVar, Iv.eC, Iv.eOp, Iv.eUn, Iv.aNil, Iv.aCons, Iv.eCall, Iv.eTup, Iv.eLst, Iv.eNew, Iv.eAnd, Iv.eOr, Iv.wNot, Iv.bVal, Iv.bAnd, Iv.bOr, Iv.bNot, Iv.eIf, Iv.eChain, Iv.mkTup, Iv.mkLst, Iv.mkNew, Iv.wAdd, Iv.wSub, Iv.wMul, Iv.wFdiv, Iv.wMod, Iv.wPow, Iv.wNeg, Iv.wEq, Iv.wNe, Iv.wLt, Iv.wLe, Iv.wGt, Iv.wGe, Iv.wIs, Iv.wIsNot, Iv.isFlat, Iv.inW, Iv.wIn, Iv.wNotIn, Iv.wIx, Iv.dat, Iv.datL, Iv.datS, Iv.listOf, Iv.seqOf, Iv.stillOf, Iv.oNo, Iv.oSome, Iv.cutW, Iv.wSl, Iv.eSl, Iv.gNm, Iv.gsNil, Iv.gsCons, Iv.gTu, Iv.setAt, Iv.gIx, Iv.sNext, Iv.sSeq, Iv.sIf, Iv.sRet, Iv.sEx, Iv.sAsg, Iv.sRaise, Iv.sBreak, Iv.sCont, Iv.iSeq, Iv.iRg, Iv.iRg2, Iv.forF, Iv.sFor, Iv.gUl, Iv.sPr, Iv.sPr3, Iv.wipeE, Iv.bYes, Iv.lcF, Iv.eLc, Iv.okW, Iv.okWs, Iv.okO, Iv.frzW, Iv.frzWs, Iv.fin, Iv.finX, Iv.finN, Iv.start0, Iv.runF, Iv.runN, Iv.eFn, Iv.bSum, Iv.bSorted, Iv.bLen, Iv.bAbs, Iv.bTuple, Iv.bList, Iv.bListN, Iv.blsOf, Iv.bAll, Iv.bAny, Iv.bInt, Iv.bIsi, Iv.isi, Iv.wRev, Iv.eLm, Iv.mAppend, Iv.mPop, Iv.mPopAt, Iv.lc2F, Iv.eLc2, Iv.Res.bind, Iv.rangeW, Iv.wAddN, Iv.shut_eq, Iv.iZp, Iv.zipW, three_ok h, h4, h3, canbe0 h, hp, shaped_i, PyData.eqv, h5]
theorem chkp1 {a b c d s : Int} (h : IsR a b c d) (h2 : 0 < s) (h3 : s ≤ 10000) (hp : hp b c d a s = true) (S : Store) : F_check_position [t4 a b c d, .int 1, .int s] S = .ok .non S := by
  have h4 : 0 ≤ s := by omega
  have h5 : ¬ s = 0 := by omega
  simp [F_check_position, b_check_position, b_check_position_1, Iv.eVar, Iv.eC, Iv.eOp, Iv.eUn, Iv.aNil, Iv.aCons, Iv.eCall, Iv.eTup, Iv.eLst, Iv.eNew, Iv.eAnd, Iv.eOr, Iv.wNot, Iv.bVal, Iv.bAnd, Iv.bOr, Iv.bNot, Iv.eIf, Iv.eChain, Iv.mkTup, Iv.mkLst, Iv.mkNew, Iv.wAdd, Iv.wSub, Iv.wMul, Iv.wFdiv, Iv.wMod, Iv.wPow, Iv.wNeg, Iv.wEq, Iv.wNe, Iv.wLt, Iv.wLe, Iv.wGt, Iv.wGe, Iv.wIs, Iv.wIsNot, Iv.isFlat, Iv.inW, Iv.wIn, Iv.wNotIn, Iv.wIx, Iv.dat, Iv.datL, Iv.datS, Iv.listOf, Iv.seqOf, Iv.stillOf, Iv.oNo, Iv.oSome, Iv.cutW, Iv.wSl, Iv.eSl, Iv.gNm, Iv.gsNil, Iv.gsCons, Iv.gTu, Iv.setAt, Iv.gIx, Iv.sNext, Iv.sSeq, Iv.sIf, Iv.sRet, Iv.sEx, Iv.sAsg, Iv.sRaise, Iv.sBreak, Iv.sCont, Iv.iSeq, Iv.iRg, Iv.iRg2, Iv.forF, Iv.sFor, Iv.gUl, Iv.sPr, Iv.sPr3, Iv.wipeE, Iv.bYes, Iv.lcF, Iv.eLc, Iv.okW, Iv.okWs, Iv.okO, Iv.frzW, Iv.frzWs, Iv.fin, Iv.finX, Iv.finN, Iv.start0, Iv.runF, Iv.runN, Iv.eFn, Iv.bSum, Iv.bSorted, Iv.bLen, Iv.bAbs, Iv.bTuple, Iv.bList, Iv.bListN, Iv.blsOf, Iv.bAll, Iv.bAny, Iv.bInt, Iv.bIsi, Iv.isi, Iv.wRev, Iv.eLm, Iv.mAppend, Iv.mPop, Iv.mPopAt, Iv.lc2F, Iv.eLc2, Iv.Res.bind, Iv.rangeW, Iv.wAddN, Iv.shut_eq, Iv.iZp, Iv.zipW, three_ok h, h4, h3, canbe1 h, hp, shaped_i, PyData.eqv, h5]
theorem opened0 {a b c d s : Int} (h : IsR a b c d) (h2 : 0 < s) (h3 : s ≤ 10000) (hp : hp a b c d s = true) (S : Store) : F_opened [t4 a b c d, .int 0, .int s] S = .ok (.tup [cs a b s, cs c d s]) S := by
  simp [F_opened, b_opened, Iv.eVar, Iv.eC, Iv.eOp, Iv.eUn, Iv.aNil, Iv.aCons, Iv.eCall, Iv.eTup, Iv.eLst, Iv.eNew, Iv.eAnd, Iv.eOr, Iv.wNot, Iv.bVal, Iv.bAnd, Iv.bOr, Iv.bNot, Iv.eIf, Iv.eChain, Iv.mkTup, Iv.mkLst, Iv.mkNew, Iv.wAdd, Iv.wSub, Iv.wMul, Iv.wFdiv, Iv.wMod, Iv.wPow, Iv.wNeg, Iv.wEq, Iv.wNe, Iv.wLt, Iv.wLe, Iv.wGt, Iv.wGe, Iv.wIs, Iv.wIsNot, Iv.isFlat, Iv.inW, Iv.wIn, Iv.wNotIn, Iv.wIx, Iv.dat, Iv.datL, Iv.datS, Iv.listOf, Iv.seqOf, Iv.stillOf, Iv.oNo, Iv.oSome, Iv.cutW, Iv.wSl, Iv.eSl, Iv.gNm, Iv.gsNil, Iv.gsCons, Iv.gTu, Iv.setAt, Iv.gIx, Iv.sNext, Iv.sSeq, Iv.sIf, Iv.sRet, Iv.sEx, Iv.sAsg, Iv.sRaise, Iv.sBreak, Iv.sCont, Iv.iSeq, Iv.iRg, Iv.iRg2, Iv.forF, Iv.sFor, Iv.gUl, Iv.sPr, Iv.sPr3, Iv.wipeE, Iv.bYes, Iv.lcF, Iv.eLc, Iv.okW, Iv.okWs, Iv.okO, Iv.frzW, Iv.frzWs, Iv.fin, Iv.finX, Iv.finN, Iv.start0, Iv.runF, Iv.runN, Iv.eFn, Iv.bSum, Iv.bSorted, Iv.bLen, Iv.bAbs, Iv.bTuple, Iv.bList, Iv.bListN, Iv.blsOf, Iv.bAll, Iv.bAny, Iv.bInt, Iv.bIsi, Iv.isi, Iv.wRev, Iv.eLm, Iv.mAppend, Iv.mPop, Iv.mPopAt, Iv.lc2F, Iv.eLc2, Iv.Res.bind, Iv.rangeW, Iv.wAddN, Iv.shut_eq, Iv.iZp, Iv.zipW, chkp0 h h2 h3 hp, cosine0 h, cosine2 h]
theorem opened1 {a b c d s : Int} (h : IsR a b c d) (h2 : 0 < s) (h3 : s ≤ 10000) (hp : hp b c d a s = true) (S : Store) : F_opened [t4 a b c d, .int 1, .int s] S = .ok (.tup [cs b c s, cs d a s]) S := by
  simp [F_opened, b_opened, Iv.eVar, Iv.eC, Iv.eOp, Iv.eUn, Iv.aNil, Iv.aCons, Iv.eCall, Iv.eTup, Iv.eLst, Iv.eNew, Iv.eAnd, Iv.eOr, Iv.wNot, Iv.bVal, Iv.bAnd, Iv.bOr, Iv.bNot, Iv.eIf, Iv.eChain, Iv.mkTup, Iv.mkLst, Iv.mkNew, Iv.wAdd, Iv.wSub, Iv.wMul, Iv.wFdiv, Iv.wMod, Iv.wPow, Iv.wNeg, Iv.wEq, Iv.wNe, Iv.wLt, Iv.wLe, Iv.wGt, Iv.wGe, Iv.wIs, Iv.wIsNot, Iv.isFlat, Iv.inW, Iv.wIn, Iv.wNotIn, Iv.wIx, Iv.dat, Iv.datL, Iv.datS, Iv.listOf, Iv.seqOf, Iv.stillOf, Iv.oNo, Iv.oSome, Iv.cutW, Iv.wSl, Iv.eSl, Iv.gNm, Iv.gsNil, Iv.gsCons, Iv.gTu, Iv.setAt, Iv.gIx, Iv.sNext, Iv.sSeq, Iv.sIf, Iv.sRet, Iv.sEx, Iv.sAsg, Iv.sRaise, Iv.sBreak, Iv.sCont, Iv.iSeq, Iv.iRg, Iv.iRg2, Iv.forF, Iv.sFor, Iv.gUl, Iv.sPr, Iv.sPr3, Iv.wipeE, Iv.bYes, Iv.lcF, Iv.eLc, Iv.okW, Iv.okWs, Iv.okO, Iv.frzW, Iv.frzWs, Iv.fin, Iv.finX, Iv.finN, Iv.start0, Iv.runF, Iv.runN, Iv.eFn, Iv.bSum, Iv.bSorted, Iv.bLen, Iv.bAbs, Iv.bTuple, Iv.bList, Iv.bListN, Iv.blsOf, Iv.bAll, Iv.bAny, Iv.bInt, Iv.bIsi, Iv.isi, Iv.wRev, Iv.eLm, Iv.mAppend, Iv.mPop, Iv.mPopAt, Iv.lc2F, Iv.eLc2, Iv.Res.bind, Iv.rangeW, Iv.wAddN, Iv.shut_eq, Iv.iZp, Iv.zipW, chkp1 h h2 h3 hp, cosine1 h, cosine3 h]
def frT (t b : Int) : Int := t / (Int.gcd t b : Int)
def frB (t b : Int) : Int := b / (Int.gcd t b : Int)
theorem fr_eq (t b : Int) : fr t b = .tup [.int (frT t b), .int (frB t b)] := rfl
def fl (x y s : Int) : Bool := decide (ab (frT (x * x + y * y - s) (2 * x * y)) = frB (x * x + y * y - s) (2 * x * y))
theorem fl_mi (x y s : Int) : fl y x s = fl x y s := by
  unfold fl
  rw [Int.add_comm (y * y), Int.mul_assoc 2 y x, Int.mul_comm y x, ← Int.mul_assoc]
def cp (x y z w s : Int) : Int := if (fl x y s || fl z w s) = true then 1 else 2
theorem cp_sw (x y z w s : Int) : cp z w x y s = cp x y z w s := by simp only [cp, Bool.or_comm]
theorem cp_mi (x y z w s : Int) : cp y x w z s = cp x y z w s := by simp only [cp, fl_mi]
theorem count_aux {R : W} {x y z w k s : Int} {S : Store} (h1 : F_check_position [R, .int k, .int s] S = .ok .non S) (h2 : F_cosine [R, .int k, .int s] S = .ok (cs x y s) S) (h3 : F_cosine [R, .int (k + 2), .int s] S = .ok (cs z w s) S) :
    F_count_positions [R, .int k, .int s] S = .ok (.int (cp x y z w s)) S := by
  unfold cp fl
  generalize hA : ab (frT (x * x + y * y - s) (2 * x * y)) = A
  generalize hB : ab (frT (z * z + w * w - s) (2 * z * w)) = B
  by_cases q1 : A = frB (x * x + y * y - s) (2 * x * y) <;> by_cases q2 : B = frB (z * z + w * w - s) (2 * z * w) <;> simp [F_count_positions, b_count_positions, b_count_positions_1, Iv.eVar, Iv.eC, Iv.eOp, Iv.eUn, Iv.aNil, Iv.aCons, Iv.eCall, Iv.eTup, Iv.eLst, Iv.eNew, Iv.eAnd, Iv.eOr, Iv.wNot, Iv.bVal, Iv.bAnd, Iv.bOr, Iv.bNot, Iv.eIf, Iv.eChain, Iv.mkTup, Iv.mkLst, Iv.mkNew, Iv.wAdd, Iv.wSub, Iv.wMul, Iv.wFdiv, Iv.wMod, Iv.wPow, Iv.wNeg, Iv.wEq, Iv.wNe, Iv.wLt, Iv.wLe, Iv.wGt, Iv.wGe, Iv.wIs, Iv.wIsNot, Iv.isFlat, Iv.inW, Iv.wIn, Iv.wNotIn, Iv.wIx, Iv.dat, Iv.datL, Iv.datS, Iv.listOf, Iv.seqOf, Iv.stillOf, Iv.oNo, Iv.oSome, Iv.cutW, Iv.wSl, Iv.eSl, Iv.gNm, Iv.gsNil, Iv.gsCons, Iv.gTu, Iv.setAt, Iv.gIx, Iv.sNext, Iv.sSeq, Iv.sIf, Iv.sRet, Iv.sEx, Iv.sAsg, Iv.sRaise, Iv.sBreak, Iv.sCont, Iv.iSeq, Iv.iRg, Iv.iRg2, Iv.forF, Iv.sFor, Iv.gUl, Iv.sPr, Iv.sPr3, Iv.wipeE, Iv.bYes, Iv.lcF, Iv.eLc, Iv.okW, Iv.okWs, Iv.okO, Iv.frzW, Iv.frzWs, Iv.fin, Iv.finX, Iv.finN, Iv.start0, Iv.runF, Iv.runN, Iv.eFn, Iv.bSum, Iv.bSorted, Iv.bLen, Iv.bTuple, Iv.bList, Iv.bListN, Iv.blsOf, Iv.bAll, Iv.bAny, Iv.bInt, Iv.bIsi, Iv.isi, Iv.wRev, Iv.eLm, Iv.mAppend, Iv.mPop, Iv.mPopAt, Iv.lc2F, Iv.eLc2, Iv.Res.bind, Iv.rangeW, Iv.wAddN, Iv.shut_eq, Iv.iZp, Iv.zipW, bAbs_i, h1, h2, h3, cs, fr_eq, shaped_i, PyData.eqv, hA, hB, q1, q2]
theorem count0 {a b c d s : Int} (h : IsR a b c d) (h2 : 0 < s) (h3 : s ≤ 10000) (hp : hp a b c d s = true) (S : Store) : F_count_positions [t4 a b c d, .int 0, .int s] S = .ok (.int (cp a b c d s)) S :=
  count_aux (chkp0 h h2 h3 hp S) (cosine0 h s S) (cosine2 h s S)
theorem count1 {a b c d s : Int} (h : IsR a b c d) (h2 : 0 < s) (h3 : s ≤ 10000) (hp : hp b c d a s = true) (S : Store) : F_count_positions [t4 a b c d, .int 1, .int s] S = .ok (.int (cp b c d a s)) S :=
  count_aux (chkp1 h h2 h3 hp S) (cosine1 h s S) (cosine3 h s S)
/-! ### other squares -/
def oA (x y s : Int) : Int := x * x - y * y + s
def oL (x s o : Int) : Int := 4 * s * x * x - o * o
def oW (o1 o2 l r : Int) : Int := (o1 - o2) * (o1 - o2) + l + r
def oP (wh l r s : Int) : W := .tup [fr (2 * wh) (4 * s), fr (wh * wh - 4 * l * r) (16 * s * s)]
def os (x y z w s : Int) : W := oP (oW (oA x y s) (oA w z s) (oL x s (oA x y s)) (oL w s (oA w z s))) (oL x s (oA x y s)) (oL w s (oA w z s)) s
theorem sq_bd {x B : Int} (h1 : -B ≤ x) (h2 : x ≤ B) : 0 ≤ x * x ∧ x * x ≤ B * B := by
  rcases Int.le_total 0 x with h | h
  · exact ⟨Int.mul_nonneg h h, Int.mul_le_mul h2 h2 h (by omega)⟩
  · have e : x * x = (-x) * (-x) := by rw [Int.neg_mul_neg]
    rw [e]
    exact ⟨Int.mul_nonneg (by omega) (by omega), Int.mul_le_mul (by omega) (by omega) (by omega) (by omega)⟩
theorem mul_bd {x y A B : Int} (h0 : 0 ≤ x) (h1 : x ≤ A) (h2 : 0 ≤ y) (h3 : y ≤ B) : 0 ≤ x * y ∧ x * y ≤ A * B :=
  ⟨Int.mul_nonneg h0 h2, Int.mul_le_mul h1 h3 h2 (by omega)⟩
theorem oA_bd {x y s : Int} (h1 : 1 ≤ x) (h2 : x ≤ 50) (h3 : 1 ≤ y) (h4 : y ≤ 50) (h5 : 0 < s) (h6 : s ≤ 10000) : -2500 ≤ oA x y s ∧ oA x y s ≤ 12500 := by
  have a := sq_bd (x := x) (B := 50) (by omega) (by omega)
  have b := sq_bd (x := y) (B := 50) (by omega) (by omega)
  unfold oA
  omega
theorem oL_bd {x s o : Int} (h1 : 1 ≤ x) (h2 : x ≤ 50) (h5 : 0 < s) (h6 : s ≤ 10000) (h7 : -2500 ≤ o) (h8 : o ≤ 12500) : -156250000 ≤ oL x s o ∧ oL x s o ≤ 100000000 := by
  have a := sq_bd (x := x) (B := 50) (by omega) (by omega)
  have b := sq_bd (x := o) (B := 12500) (by omega) (by omega)
  have c := mul_bd (x := 4 * s) (y := x * x) (A := 40000) (B := 2500) (by omega) (by omega) (by omega) (by omega)
  unfold oL
  rw [Int.mul_assoc (4 * s) x x]
  omega
theorem oth_aux {R : W} {x y z w k s : Int} {S : Store} (hc : F_check_position [R, .int k, .int s] S = .ok .non S) (hb1 : F_bars_at [R, .int k] S = .ok (.tup [.int x, .int y]) S) (hb2 : F_bars_at [R, .int (k + 2)] S = .ok (.tup [.int z, .int w]) S)
    (h1 : 1 ≤ x) (h2 : x ≤ 50) (h3 : 1 ≤ y) (h4 : y ≤ 50) (h5 : 1 ≤ z) (h6 : z ≤ 50) (h7 : 1 ≤ w) (h8 : w ≤ 50) (h9 : 0 < s) (h10 : s ≤ 10000) : F_other_squares [R, .int k, .int s] S = .ok (os x y z w s) S := by
  have o1 := oA_bd h1 h2 h3 h4 h9 h10
  have o2 := oA_bd h7 h8 h5 h6 h9 h10
  have l1 := oL_bd h1 h2 h9 h10 o1.1 o1.2
  have l2 := oL_bd h7 h8 h9 h10 o2.1 o2.2
  have d1 := sq_bd (x := oA x y s - oA w z s) (B := 15000) (by omega) (by omega)
  have w1 : sm (oW (oA x y s) (oA w z s) (oL x s (oA x y s)) (oL w s (oA w z s))) := by unfold oW sm; omega
  have sx : ∀ u : Int, mulOk x u := mul_l ⟨by omega, by omega⟩
  have sy : ∀ u : Int, mulOk y u := mul_l ⟨by omega, by omega⟩
  have sz : ∀ u : Int, mulOk z u := mul_l ⟨by omega, by omega⟩
  have sw : ∀ u : Int, mulOk w u := mul_l ⟨by omega, by omega⟩
  have rx : ∀ u : Int, mulOk u x := mul_r ⟨by omega, by omega⟩
  have rw' : ∀ u : Int, mulOk u w := mul_r ⟨by omega, by omega⟩
  have s4 : mulOk 4 s := mul_l ⟨by omega, by omega⟩ _
  have s16 : mulOk 16 s := mul_l ⟨by omega, by omega⟩ _
  have s17 : mulOk (16 * s) s := mul_l ⟨by omega, by omega⟩ _
  have p1 : mulOk (oA x y s) (oA x y s) := mul_l ⟨by omega, by omega⟩ _
  have p2 : mulOk (oA w z s) (oA w z s) := mul_l ⟨by omega, by omega⟩ _
  have p3 : mulOk (oA x y s - oA w z s) (oA x y s - oA w z s) := mul_l ⟨by omega, by omega⟩ _
  have p4 := mul_l w1
  have p5 : ∀ u : Int, mulOk 4 u := mul_l ⟨by omega, by omega⟩
  have p6 : ∀ u : Int, mulOk u (oL w s (oA w z s)) := mul_r ⟨by omega, by omega⟩
  have p7 : ∀ u : Int, mulOk 2 u := mul_l ⟨by omega, by omega⟩
  have c1 := mul_bd (x := 16 * s) (y := s) (A := 160000) (B := 10000) (by omega) (by omega) (by omega) (by omega)
  have c2 : 0 < 16 * s * s := Int.mul_pos (by omega) (by omega)
  have q1 : x * x - y * y + s = oA x y s := rfl
  have q2 : w * w - z * z + s = oA w z s := rfl
  have q3 : 4 * s * x * x - oA x y s * oA x y s = oL x s (oA x y s) := rfl
  have q4 : 4 * s * w * w - oA w z s * oA w z s = oL w s (oA w z s) := rfl
  have q5 : (oA x y s - oA w z s) * (oA x y s - oA w z s) + oL x s (oA x y s) + oL w s (oA w z s) = oW (oA x y s) (oA w z s) (oL x s (oA x y s)) (oL w s (oA w z s)) := rfl
  unfold os oP
  generalize hWH : oW (oA x y s) (oA w z s) (oL x s (oA x y s)) (oL w s (oA w z s)) = WH at *
  have f1 := fraction_spec (2 * WH) (4 * s) (by omega) (by omega) S
  have f2 := fraction_spec (WH * WH - 4 * oL x s (oA x y s) * oL w s (oA w z s)) (16 * s * s) c2 (by omega) S
  simp [F_other_squares, b_other_squares, b_other_squares_1, b_other_squares_2, b_other_squares_3, b_other_squares_4, b_other_squares_5, b_other_squares_6, Iv.eVar, Iv.eC, Iv.eOp, Iv.eUn, Iv.aNil, Iv.aCons, Iv.eCall, Iv.eTup, Iv.eLst, Iv.eNew, Iv.eAnd, Iv.eOr, Iv.wNot, Iv.bVal, Iv.bAnd, Iv.bOr, Iv.bNot, Iv.eIf, Iv.eChain, Iv.mkTup, Iv.mkLst, Iv.mkNew, Iv.wAdd, Iv.wSub, Iv.wFdiv, Iv.wMod, Iv.wPow, Iv.wNeg, Iv.wEq, Iv.wNe, Iv.wLt, Iv.wLe, Iv.wGt, Iv.wGe, Iv.wIs, Iv.wIsNot, Iv.isFlat, Iv.inW, Iv.wIn, Iv.wNotIn, Iv.wIx, Iv.dat, Iv.datL, Iv.datS, Iv.listOf, Iv.seqOf, Iv.stillOf, Iv.oNo, Iv.oSome, Iv.cutW, Iv.wSl, Iv.eSl, Iv.gNm, Iv.gsNil, Iv.gsCons, Iv.gTu, Iv.setAt, Iv.gIx, Iv.sNext, Iv.sSeq, Iv.sIf, Iv.sRet, Iv.sEx, Iv.sAsg, Iv.sRaise, Iv.sBreak, Iv.sCont, Iv.iSeq, Iv.iRg, Iv.iRg2, Iv.forF, Iv.sFor, Iv.gUl, Iv.sPr, Iv.sPr3, Iv.wipeE, Iv.bYes, Iv.lcF, Iv.eLc, Iv.okW, Iv.okWs, Iv.okO, Iv.frzW, Iv.frzWs, Iv.fin, Iv.finX, Iv.finN, Iv.start0, Iv.runF, Iv.runN, Iv.eFn, Iv.bSum, Iv.bSorted, Iv.bLen, Iv.bAbs, Iv.bTuple, Iv.bList, Iv.bListN, Iv.blsOf, Iv.bAll, Iv.bAny, Iv.bInt, Iv.bIsi, Iv.isi, Iv.wRev, Iv.eLm, Iv.mAppend, Iv.mPop, Iv.mPopAt, Iv.lc2F, Iv.eLc2, Iv.Res.bind, Iv.rangeW, Iv.wAddN, Iv.shut_eq, Iv.iZp, Iv.zipW, L2.atI, ixN, hb1, hb2, hc, wMul_i, sx, sy, sz, sw, rx, rw', s4, s16, s17, p1, p2, p3, p4, p5, p6, p7, q1, q2, q3, q4, q5, f1, f2]
theorem oL_sw (z w s : Int) : oL z s (oA z w s) = oL w s (oA w z s) := by unfold oL oA; grind
theorem oW_sw (x y z w s l r : Int) : oW (oA z w s) (oA y x s) l r = oW (oA x y s) (oA w z s) r l := by unfold oW oA; grind
theorem oW_mi (x y z w s l r : Int) : oW (oA y x s) (oA z w s) l r = oW (oA x y s) (oA w z s) l r := by unfold oW oA; grind
theorem oW_rv (o1 o2 l r : Int) : oW o2 o1 r l = oW o1 o2 l r := by unfold oW; grind
theorem oP_rv (wh l r s : Int) : oP wh r l s = oP wh l r s := by
  unfold oP
  rw [Int.mul_assoc 4 r l, Int.mul_comm r l, ← Int.mul_assoc]
theorem os_sw (x y z w s : Int) : os z w x y s = os x y z w s := by
  unfold os
  rw [oL_sw z w s, oL_sw y x s, oW_sw, oP_rv]
theorem os_mi (x y z w s : Int) : os y x w z s = os x y z w s := by
  unfold os
  rw [oL_sw y x s, oL_sw z w s, oW_mi]
theorem os_rv (x y z w s : Int) : os w z y x s = os x y z w s := by rw [os_mi, os_sw]
theorem oth0 {a b c d s : Int} (h : IsR a b c d) (h2 : 0 < s) (h3 : s ≤ 10000) (hp : hp a b c d s = true) (S : Store) : F_other_squares [t4 a b c d, .int 0, .int s] S = .ok (os a b c d s) S := by
  have hc := chkp0 h h2 h3 hp S
  obtain ⟨h1, h2, h3, h4, h5, h6, h7, h8, h9, h10, h11, h12⟩ := h
  exact oth_aux hc (bars0 a b c d S) (bars2 a b c d S) (by omega) (by omega) (by omega) (by omega) (by omega) (by omega) (by omega) (by omega) (by omega) (by omega)
theorem oth1 {a b c d s : Int} (h : IsR a b c d) (h2 : 0 < s) (h3 : s ≤ 10000) (hp : hp b c d a s = true) (S : Store) : F_other_squares [t4 a b c d, .int 1, .int s] S = .ok (os b c d a s) S := by
  have hc := chkp1 h h2 h3 hp S
  obtain ⟨h1, h2, h3, h4, h5, h6, h7, h8, h9, h10, h11, h12⟩ := h
  exact oth_aux hc (bars1 a b c d S) (bars3 a b c d S) (by omega) (by omega) (by omega) (by omega) (by omega) (by omega) (by omega) (by omega) (by omega) (by omega)
/-! ### closing lengths -/
theorem lcF_filter {g : GF} {t : BF} {e : EF} {d0 : En} {S : Store} (p : Int → Bool) (f : Int → W) : ∀ (l : List Int), (∀ i ∈ l, ∃ d1, g (.int i) d0 S = .ok d1 S ∧ t d1 S = .ok (p i) S ∧ (p i = true → e d1 S = .ok (f i) S)) → lcF g t e d0 (l.map .int) S = .ok ((l.filter p).map f) S
  | [], _ => rfl
  | i :: r, h => by
    obtain ⟨d1, h1, h2, h3⟩ := h i List.mem_cons_self
    have ih := lcF_filter p f r fun w hw => h w (List.mem_cons_of_mem _ hw)
    cases q : p i
    · rw [q] at h2
      simp [lcF, h1, h2, Res.bind, ih, List.filter_cons, q]
    · rw [q] at h2
      simp [lcF, h1, h2, h3 q, Res.bind, ih, List.filter_cons, q]
def rng : Int → Nat → List Int
  | _, 0 => []
  | lo, n + 1 => lo :: rng (lo + 1) n
theorem rangeW_rng : ∀ (n : Nat) (lo : Int), rangeW lo n = (rng lo n).map .int
  | 0, _ => rfl
  | n + 1, lo => by simp [rangeW, rng, rangeW_rng n]
theorem rng_mem : ∀ (n : Nat) (lo x : Int), x ∈ rng lo n ↔ lo ≤ x ∧ x < lo + n
  | 0, lo, x => by simp [rng]
  | n + 1, lo, x => by
    simp only [rng, List.mem_cons, rng_mem n]
    omega
theorem rng_length : ∀ (n : Nat) (lo : Int), (rng lo n).length = n
  | 0, _ => rfl
  | n + 1, lo => by simp [rng, rng_length n]
def cv (p q r l : Int) : Bool := decide (1 ≤ l ∧ l ≤ 50 ∧ l < p + q + r ∧ p < q + r + l ∧ q < p + r + l ∧ r < p + q + l)
def rl (p q r : Int) : List Int := (rng 1 50).filter (cv p q r)
theorem rl_mem (p q r l : Int) : l ∈ rl p q r ↔ cv p q r l = true := by
  unfold rl
  rw [List.mem_filter, rng_mem]
  constructor
  · exact fun h => h.2
  · intro h
    refine ⟨?_, h⟩
    have := of_decide_eq_true h
    omega
theorem sx4 : HT.sIx 4 0 (some 4) = 4 := rfl
theorem withl0 (a b c d l : Int) (S : Store) : F_with_length [t4 a b c d, .int 0, .int l] S = .ok (t4 l b c d) S := by simp [F_with_length, b_with_length, Iv.eVar, Iv.eC, Iv.eOp, Iv.eUn, Iv.aNil, Iv.aCons, Iv.eCall, Iv.eTup, Iv.eLst, Iv.eNew, Iv.eAnd, Iv.eOr, Iv.wNot, Iv.bVal, Iv.bAnd, Iv.bOr, Iv.bNot, Iv.eIf, Iv.eChain, Iv.mkTup, Iv.mkLst, Iv.mkNew, Iv.wAdd, Iv.wSub, Iv.wMul, Iv.wFdiv, Iv.wMod, Iv.wPow, Iv.wNeg, Iv.wEq, Iv.wNe, Iv.wLt, Iv.wLe, Iv.wGt, Iv.wGe, Iv.wIs, Iv.wIsNot, Iv.isFlat, Iv.inW, Iv.wIn, Iv.wNotIn, Iv.wIx, Iv.dat, Iv.datL, Iv.datS, Iv.listOf, Iv.seqOf, Iv.stillOf, Iv.oNo, Iv.oSome, Iv.cutW, Iv.wSl, Iv.eSl, Iv.gNm, Iv.gsNil, Iv.gsCons, Iv.gTu, Iv.setAt, Iv.gIx, Iv.sNext, Iv.sSeq, Iv.sIf, Iv.sRet, Iv.sEx, Iv.sAsg, Iv.sRaise, Iv.sBreak, Iv.sCont, Iv.iSeq, Iv.iRg, Iv.iRg2, Iv.forF, Iv.sFor, Iv.gUl, Iv.sPr, Iv.sPr3, Iv.wipeE, Iv.bYes, Iv.lcF, Iv.eLc, Iv.okW, Iv.okWs, Iv.okO, Iv.frzW, Iv.frzWs, Iv.fin, Iv.finX, Iv.finN, Iv.start0, Iv.runF, Iv.runN, Iv.eFn, Iv.bSum, Iv.bSorted, Iv.bLen, Iv.bAbs, Iv.bTuple, Iv.bList, Iv.bListN, Iv.blsOf, Iv.bAll, Iv.bAny, Iv.bInt, Iv.bIsi, Iv.isi, Iv.wRev, Iv.eLm, Iv.mAppend, Iv.mPop, Iv.mPopAt, Iv.lc2F, Iv.eLc2, Iv.Res.bind, Iv.rangeW, Iv.wAddN, Iv.shut_eq, Iv.iZp, Iv.zipW, sx0, sy0, sx1, sy1, sxn, syn]
theorem withl1 (a b c d l : Int) (S : Store) : F_with_length [t4 a b c d, .int 1, .int l] S = .ok (t4 a l c d) S := by simp [F_with_length, b_with_length, Iv.eVar, Iv.eC, Iv.eOp, Iv.eUn, Iv.aNil, Iv.aCons, Iv.eCall, Iv.eTup, Iv.eLst, Iv.eNew, Iv.eAnd, Iv.eOr, Iv.wNot, Iv.bVal, Iv.bAnd, Iv.bOr, Iv.bNot, Iv.eIf, Iv.eChain, Iv.mkTup, Iv.mkLst, Iv.mkNew, Iv.wAdd, Iv.wSub, Iv.wMul, Iv.wFdiv, Iv.wMod, Iv.wPow, Iv.wNeg, Iv.wEq, Iv.wNe, Iv.wLt, Iv.wLe, Iv.wGt, Iv.wGe, Iv.wIs, Iv.wIsNot, Iv.isFlat, Iv.inW, Iv.wIn, Iv.wNotIn, Iv.wIx, Iv.dat, Iv.datL, Iv.datS, Iv.listOf, Iv.seqOf, Iv.stillOf, Iv.oNo, Iv.oSome, Iv.cutW, Iv.wSl, Iv.eSl, Iv.gNm, Iv.gsNil, Iv.gsCons, Iv.gTu, Iv.setAt, Iv.gIx, Iv.sNext, Iv.sSeq, Iv.sIf, Iv.sRet, Iv.sEx, Iv.sAsg, Iv.sRaise, Iv.sBreak, Iv.sCont, Iv.iSeq, Iv.iRg, Iv.iRg2, Iv.forF, Iv.sFor, Iv.gUl, Iv.sPr, Iv.sPr3, Iv.wipeE, Iv.bYes, Iv.lcF, Iv.eLc, Iv.okW, Iv.okWs, Iv.okO, Iv.frzW, Iv.frzWs, Iv.fin, Iv.finX, Iv.finN, Iv.start0, Iv.runF, Iv.runN, Iv.eFn, Iv.bSum, Iv.bSorted, Iv.bLen, Iv.bAbs, Iv.bTuple, Iv.bList, Iv.bListN, Iv.blsOf, Iv.bAll, Iv.bAny, Iv.bInt, Iv.bIsi, Iv.isi, Iv.wRev, Iv.eLm, Iv.mAppend, Iv.mPop, Iv.mPopAt, Iv.lc2F, Iv.eLc2, Iv.Res.bind, Iv.rangeW, Iv.wAddN, Iv.shut_eq, Iv.iZp, Iv.zipW, sx1, sy1, sx2, sy2, sxn, syn]
theorem withl2 (a b c d l : Int) (S : Store) : F_with_length [t4 a b c d, .int 2, .int l] S = .ok (t4 a b l d) S := by simp [F_with_length, b_with_length, Iv.eVar, Iv.eC, Iv.eOp, Iv.eUn, Iv.aNil, Iv.aCons, Iv.eCall, Iv.eTup, Iv.eLst, Iv.eNew, Iv.eAnd, Iv.eOr, Iv.wNot, Iv.bVal, Iv.bAnd, Iv.bOr, Iv.bNot, Iv.eIf, Iv.eChain, Iv.mkTup, Iv.mkLst, Iv.mkNew, Iv.wAdd, Iv.wSub, Iv.wMul, Iv.wFdiv, Iv.wMod, Iv.wPow, Iv.wNeg, Iv.wEq, Iv.wNe, Iv.wLt, Iv.wLe, Iv.wGt, Iv.wGe, Iv.wIs, Iv.wIsNot, Iv.isFlat, Iv.inW, Iv.wIn, Iv.wNotIn, Iv.wIx, Iv.dat, Iv.datL, Iv.datS, Iv.listOf, Iv.seqOf, Iv.stillOf, Iv.oNo, Iv.oSome, Iv.cutW, Iv.wSl, Iv.eSl, Iv.gNm, Iv.gsNil, Iv.gsCons, Iv.gTu, Iv.setAt, Iv.gIx, Iv.sNext, Iv.sSeq, Iv.sIf, Iv.sRet, Iv.sEx, Iv.sAsg, Iv.sRaise, Iv.sBreak, Iv.sCont, Iv.iSeq, Iv.iRg, Iv.iRg2, Iv.forF, Iv.sFor, Iv.gUl, Iv.sPr, Iv.sPr3, Iv.wipeE, Iv.bYes, Iv.lcF, Iv.eLc, Iv.okW, Iv.okWs, Iv.okO, Iv.frzW, Iv.frzWs, Iv.fin, Iv.finX, Iv.finN, Iv.start0, Iv.runF, Iv.runN, Iv.eFn, Iv.bSum, Iv.bSorted, Iv.bLen, Iv.bAbs, Iv.bTuple, Iv.bList, Iv.bListN, Iv.blsOf, Iv.bAll, Iv.bAny, Iv.bInt, Iv.bIsi, Iv.isi, Iv.wRev, Iv.eLm, Iv.mAppend, Iv.mPop, Iv.mPopAt, Iv.lc2F, Iv.eLc2, Iv.Res.bind, Iv.rangeW, Iv.wAddN, Iv.shut_eq, Iv.iZp, Iv.zipW, sx2, sy2, sx3, sy3, sxn, syn]
theorem withl3 (a b c d l : Int) (S : Store) : F_with_length [t4 a b c d, .int 3, .int l] S = .ok (t4 a b c l) S := by simp [F_with_length, b_with_length, Iv.eVar, Iv.eC, Iv.eOp, Iv.eUn, Iv.aNil, Iv.aCons, Iv.eCall, Iv.eTup, Iv.eLst, Iv.eNew, Iv.eAnd, Iv.eOr, Iv.wNot, Iv.bVal, Iv.bAnd, Iv.bOr, Iv.bNot, Iv.eIf, Iv.eChain, Iv.mkTup, Iv.mkLst, Iv.mkNew, Iv.wAdd, Iv.wSub, Iv.wMul, Iv.wFdiv, Iv.wMod, Iv.wPow, Iv.wNeg, Iv.wEq, Iv.wNe, Iv.wLt, Iv.wLe, Iv.wGt, Iv.wGe, Iv.wIs, Iv.wIsNot, Iv.isFlat, Iv.inW, Iv.wIn, Iv.wNotIn, Iv.wIx, Iv.dat, Iv.datL, Iv.datS, Iv.listOf, Iv.seqOf, Iv.stillOf, Iv.oNo, Iv.oSome, Iv.cutW, Iv.wSl, Iv.eSl, Iv.gNm, Iv.gsNil, Iv.gsCons, Iv.gTu, Iv.setAt, Iv.gIx, Iv.sNext, Iv.sSeq, Iv.sIf, Iv.sRet, Iv.sEx, Iv.sAsg, Iv.sRaise, Iv.sBreak, Iv.sCont, Iv.iSeq, Iv.iRg, Iv.iRg2, Iv.forF, Iv.sFor, Iv.gUl, Iv.sPr, Iv.sPr3, Iv.wipeE, Iv.bYes, Iv.lcF, Iv.eLc, Iv.okW, Iv.okWs, Iv.okO, Iv.frzW, Iv.frzWs, Iv.fin, Iv.finX, Iv.finN, Iv.start0, Iv.runF, Iv.runN, Iv.eFn, Iv.bSum, Iv.bSorted, Iv.bLen, Iv.bAbs, Iv.bTuple, Iv.bList, Iv.bListN, Iv.blsOf, Iv.bAll, Iv.bAny, Iv.bInt, Iv.bIsi, Iv.isi, Iv.wRev, Iv.eLm, Iv.mAppend, Iv.mPop, Iv.mPopAt, Iv.lc2F, Iv.eLc2, Iv.Res.bind, Iv.rangeW, Iv.wAddN, Iv.shut_eq, Iv.iZp, Iv.zipW, sx3, sy3, sx4, sxn, syn]
theorem at_first (l : List Int) (h : l ≠ []) : L2.atI (l.map W.int) 0 = some (.int (l.headD 0)) := by
  cases l with
  | nil => exact absurd rfl h
  | cons x r => simp [atI_cons0]
theorem at_last (l : List Int) (h : l ≠ []) : L2.atI (l.map W.int) (-1) = some (.int (l.getLastD 0)) := by
  have e : 0 < l.length := List.length_pos_iff.mpr h
  have e2 : (l.map W.int)[l.length - 1]? = some (.int (l.getLastD 0)) := by
    rw [List.getElem?_map, List.getElem?_eq_getElem (by omega), List.getLastD_eq_getLast?, List.getLast?_eq_getElem?, List.getElem?_eq_getElem (by omega)]
    rfl
  unfold L2.atI ixN
  simp only [List.length_map]
  rw [if_neg (by omega), if_pos (by omega)]
  simp only [Option.bind_some]
  rw [show ((-1 + (l.length : Int)).toNat) = l.length - 1 by omega]
  exact e2
def clW (p q r : Int) : W := .tup [.int ((rl p q r).headD 0), .int ((rl p q r).getLastD 0)]
theorem closing_aux {a b c d j p q r l0 : Int} {S : Store} (h : IsR a b c d) (j0 : 0 ≤ j) (j1 : j ≤ 3) (hw : ∀ l, ∃ R', F_with_length [t4 a b c d, .int j, .int l] S = .ok R' S ∧ F_is_ring [R'] S = .ok (.bl (cv p q r l)) S) (h0 : cv p q r l0 = true) :
    F_closing [t4 a b c d, .int j] S = .ok (clW p q r) S := by
  have ne : rl p q r ≠ [] := List.ne_nil_of_mem ((rl_mem p q r l0).mpr h0)
  have e1 : eLc [3] (iRg2 (aCons (eC (.int 1)) (aCons (eC (.int 51)) aNil))) (gNm 3) (bVal (eFn 1 F_is_ring (aCons (eFn 3 F_with_length (aCons (eVar 0) (aCons (eVar 1) (aCons (eVar 3) aNil)))) aNil))) (eVar 3) [some (t4 a b c d), some (.int j), none, none] S = .ok (.lst ((rl p q r).map .int)) S := by
    have := lcF_filter (g := gNm 3) (t := bVal (eFn 1 F_is_ring (aCons (eFn 3 F_with_length (aCons (eVar 0) (aCons (eVar 1) (aCons (eVar 3) aNil)))) aNil))) (e := eVar 3) (d0 := [some (t4 a b c d), some (.int j), none, none]) (S := S) (cv p q r) .int (rng 1 50) (by
      intro i _
      obtain ⟨R', w1, w2⟩ := hw i
      refine ⟨[some (t4 a b c d), some (.int j), none, some (.int i)], rfl, ?_, fun _ => rfl⟩
      simp [bVal, eFn, aCons, aNil, eVar, Res.bind, w1, w2])
    simp only [eLc, iRg2, aCons, aNil, eC, Res.bind, wipeE]
    rw [if_pos (by decide), show ((51 : Int) - 1).toNat = 50 from rfl, rangeW_rng]
    simp only [List.set, List.foldl_cons, List.foldl_nil, List.getElem?_cons_zero, List.getElem?_cons_succ]
    rw [this]
    simp only [List.length_map, rng_length]
    rfl
  simp [F_closing, b_closing, b_closing_1, b_closing_2, Iv.eVar, Iv.eC, Iv.eOp, Iv.eUn, Iv.aNil, Iv.aCons, Iv.eCall, Iv.eTup, Iv.eLst, Iv.eNew, Iv.eAnd, Iv.eOr, Iv.wNot, Iv.bVal, Iv.bAnd, Iv.bOr, Iv.bNot, Iv.eIf, Iv.eChain, Iv.mkTup, Iv.mkLst, Iv.mkNew, Iv.wAdd, Iv.wSub, Iv.wMul, Iv.wFdiv, Iv.wMod, Iv.wPow, Iv.wNeg, Iv.wEq, Iv.wNe, Iv.wLt, Iv.wLe, Iv.wGt, Iv.wGe, Iv.wIs, Iv.wIsNot, Iv.isFlat, Iv.inW, Iv.wIn, Iv.wNotIn, Iv.wIx, Iv.dat, Iv.datL, Iv.datS, Iv.listOf, Iv.seqOf, Iv.stillOf, Iv.oNo, Iv.oSome, Iv.cutW, Iv.wSl, Iv.eSl, Iv.gNm, Iv.gsNil, Iv.gsCons, Iv.gTu, Iv.setAt, Iv.gIx, Iv.sNext, Iv.sSeq, Iv.sIf, Iv.sRet, Iv.sEx, Iv.sAsg, Iv.sRaise, Iv.sBreak, Iv.sCont, Iv.iSeq, Iv.iRg, Iv.iRg2, Iv.forF, Iv.sFor, Iv.gUl, Iv.sPr, Iv.sPr3, Iv.wipeE, Iv.bYes, Iv.lcF, Iv.okW, Iv.okWs, Iv.okO, Iv.frzW, Iv.frzWs, Iv.fin, Iv.finX, Iv.finN, Iv.start0, Iv.runF, Iv.runN, Iv.eFn, Iv.bSum, Iv.bSorted, Iv.bLen, Iv.bAbs, Iv.bTuple, Iv.bList, Iv.bListN, Iv.blsOf, Iv.bAll, Iv.bAny, Iv.bInt, Iv.bIsi, Iv.isi, Iv.wRev, Iv.eLm, Iv.mAppend, Iv.mPop, Iv.mPopAt, Iv.lc2F, Iv.eLc2, Iv.Res.bind, Iv.rangeW, Iv.wAddN, Iv.shut_eq, Iv.iZp, Iv.zipW, check_ok h, number_ok, j0, j1, e1, at_first _ ne, at_last _ ne, clW]
theorem closing0 {a b c d : Int} (h : IsR a b c d) (S : Store) : F_closing [t4 a b c d, .int 0] S = .ok (clW b c d) S := by
  have h' := h
  obtain ⟨h1, h2, h3, h4, h5, h6, h7, h8, h9, h10, h11, h12⟩ := h
  refine closing_aux (l0 := a) h' (by omega) (by omega) (fun l => ⟨_, withl0 a b c d l S, ?_⟩) (by simp [cv]; omega)
  rw [isring_spec]
  congr 2
  rw [Bool.eq_iff_iff]
  simp [cv, inR, cl4]
  omega
theorem closing1 {a b c d : Int} (h : IsR a b c d) (S : Store) : F_closing [t4 a b c d, .int 1] S = .ok (clW c d a) S := by
  have h' := h
  obtain ⟨h1, h2, h3, h4, h5, h6, h7, h8, h9, h10, h11, h12⟩ := h
  refine closing_aux (l0 := b) h' (by omega) (by omega) (fun l => ⟨_, withl1 a b c d l S, ?_⟩) (by simp [cv]; omega)
  rw [isring_spec]
  congr 2
  rw [Bool.eq_iff_iff]
  simp [cv, inR, cl4]
  omega
theorem closing2 {a b c d : Int} (h : IsR a b c d) (S : Store) : F_closing [t4 a b c d, .int 2] S = .ok (clW d a b) S := by
  have h' := h
  obtain ⟨h1, h2, h3, h4, h5, h6, h7, h8, h9, h10, h11, h12⟩ := h
  refine closing_aux (l0 := c) h' (by omega) (by omega) (fun l => ⟨_, withl2 a b c d l S, ?_⟩) (by simp [cv]; omega)
  rw [isring_spec]
  congr 2
  rw [Bool.eq_iff_iff]
  simp [cv, inR, cl4]
  omega
theorem closing3 {a b c d : Int} (h : IsR a b c d) (S : Store) : F_closing [t4 a b c d, .int 3] S = .ok (clW a b c) S := by
  have h' := h
  obtain ⟨h1, h2, h3, h4, h5, h6, h7, h8, h9, h10, h11, h12⟩ := h
  refine closing_aux (l0 := d) h' (by omega) (by omega) (fun l => ⟨_, withl3 a b c d l S, ?_⟩) (by simp [cv]; omega)
  rw [isring_spec]
  congr 2
  rw [Bool.eq_iff_iff]
  simp [cv, inR, cl4]
  omega
end G
end
section
set_option maxHeartbeats 4000000
set_option maxRecDepth 100000
namespace G
open PySem L2 Iv
/-! ### picking one of several -/
theorem pick_spec {ns : List Int} {S : Store} {k : Nat} {o : MO} {c : Int} {l : List W} (hS : S[k]? = some o) (ho : Town ns c o) (hc0 : 0 ≤ c) (hc : c < 1000000) (hl : l ≠ []) (hl2 : l.length ≤ 100000) :
    ∃ w o', w ∈ l ∧ Town ns (c + 1) o' ∧ F_law_pick [.scr ns, .mt k, .lst l] S = .ok w (S.set k o') := by
  have e : 0 < l.length := List.length_pos_iff.mpr hl
  obtain ⟨r, o', h0, h1, h2, h3⟩ := draw_spec (limit := (l.length : Int)) hS ho hc0 hc (by omega) (by omega)
  have e2 : r.toNat < l.length := by omega
  have e3 := atI_pos l r h0 h1
  rw [List.getElem?_eq_getElem e2] at e3
  refine ⟨l[r.toNat], o', List.getElem_mem e2, h2, ?_⟩
  simp [F_law_pick, b_law_pick, Iv.eVar, Iv.eC, Iv.eOp, Iv.eUn, Iv.aNil, Iv.aCons, Iv.eCall, Iv.eTup, Iv.eLst, Iv.eNew, Iv.eAnd, Iv.eOr, Iv.wNot, Iv.bVal, Iv.bAnd, Iv.bOr, Iv.bNot, Iv.eIf, Iv.eChain, Iv.mkTup, Iv.mkLst, Iv.mkNew, Iv.wAdd, Iv.wSub, Iv.wMul, Iv.wFdiv, Iv.wMod, Iv.wPow, Iv.wNeg, Iv.wEq, Iv.wNe, Iv.wLt, Iv.wLe, Iv.wGt, Iv.wGe, Iv.wIs, Iv.wIsNot, Iv.isFlat, Iv.inW, Iv.wIn, Iv.wNotIn, Iv.wIx, Iv.dat, Iv.datL, Iv.datS, Iv.listOf, Iv.seqOf, Iv.stillOf, Iv.oNo, Iv.oSome, Iv.cutW, Iv.wSl, Iv.eSl, Iv.gNm, Iv.gsNil, Iv.gsCons, Iv.gTu, Iv.setAt, Iv.gIx, Iv.sNext, Iv.sSeq, Iv.sIf, Iv.sRet, Iv.sEx, Iv.sAsg, Iv.sRaise, Iv.sBreak, Iv.sCont, Iv.iSeq, Iv.iRg, Iv.iRg2, Iv.forF, Iv.sFor, Iv.gUl, Iv.sPr, Iv.sPr3, Iv.wipeE, Iv.bYes, Iv.lcF, Iv.eLc, Iv.okW, Iv.okWs, Iv.okO, Iv.frzW, Iv.frzWs, Iv.fin, Iv.finX, Iv.finN, Iv.start0, Iv.runF, Iv.runN, Iv.eFn, Iv.bSum, Iv.bSorted, Iv.bLen, Iv.bAbs, Iv.bTuple, Iv.bList, Iv.bListN, Iv.blsOf, Iv.bAll, Iv.bAny, Iv.bInt, Iv.bIsi, Iv.isi, Iv.wRev, Iv.eLm, Iv.mAppend, Iv.mPop, Iv.mPopAt, Iv.lc2F, Iv.eLc2, Iv.Res.bind, Iv.rangeW, Iv.wAddN, Iv.shut_eq, Iv.iZp, Iv.zipW, h3, e3]
/-! ### quadruples as values -/
theorem fold4 (a b c d : Int) : W.tup [.int a, .int b, .int c, .int d] = (T4.mk a b c d).w := rfl
theorem shaped_e (x : T4) : SeqAt.shaped x.e = true := rfl
theorem dat_w1 (x : T4) : dat x.w = some x.e := rfl
theorem datS_w (x : T4) (S : Store) : datS x.w S = some x.e := rfl
theorem eqv_e (x y : T4) : PyData.eqv x.e y.e = decide (x = y) := by
  cases x; cases y
  simp only [T4.e, PyData.eqv, PyData.eqvAll, T4.mk.injEq]
  rw [Bool.eq_iff_iff]
  simp
theorem ne_w (x y : T4) (S : Store) : wNe x.w y.w S = .ok (.bl (!decide (x = y))) S := by
  simp only [wNe, datS_w, shaped_e, Bool.and_self, if_true, eqv_e]
theorem eq_w (x y : T4) (S : Store) : wEq x.w y.w S = .ok (.bl (decide (x = y))) S := by
  simp only [wEq, datS_w, shaped_e, Bool.and_self, if_true, eqv_e]
theorem lay_w : ∀ xs : List T4, PyData.canLayAll0 (xs.map T4.e) = true
  | [] => rfl
  | x :: r => by
    simp only [List.map_cons, PyData.canLayAll0, lay_w r, T4.e, PyData.canLay0, Bool.and_self]
theorem shaped_w (xs : List T4) : SeqAt.shaped (.list (xs.map T4.e)) = true := by
  unfold SeqAt.shaped
  rw [Bool.and_eq_true, decide_eq_true_eq]
  refine ⟨by simp only [PyData.canLay0]; exact lay_w xs, ?_⟩
  have := depth_w xs
  simp only [PyData.depth]
  omega
theorem any_w (y : T4) : ∀ xs : List T4, ((xs.map T4.e).any fun z => PyData.eqv z y.e) = decide (y ∈ xs)
  | [] => by simp
  | x :: r => by
    simp only [List.map_cons, List.any_cons, eqv_e, any_w y r, List.mem_cons]
    rw [Bool.eq_iff_iff]
    simp
    constructor
    · rintro (h | h)
      · exact .inl h.symm
      · exact .inr h
    · rintro (h | h)
      · exact .inl h.symm
      · exact .inr h
theorem in_w (y : T4) (xs : List T4) (S : Store) : wIn y.w (.lst (xs.map T4.w)) S = .ok (.bl (decide (y ∈ xs))) S := by
  have h : inW y.w (.lst (xs.map T4.w)) S = some (decide (y ∈ xs)) := by
    show (match datS y.w S, listOf (.lst (xs.map T4.w)) S with
      | some d, some ws => match datL ws with
        | some ds => if (SeqAt.shaped d && SeqAt.shaped (.list ds)) = true then some (ds.any fun z => PyData.eqv z d) else none
        | none => none
      | _, _ => none) = _
    simp only [datS_w, Iv.listOf, dat_w, shaped_e, shaped_w, Bool.and_self, if_true, any_w]
  unfold wIn
  rw [h]
theorem min_likes (x : T4) (S : Store) : bMin [.lst ((likes x).map T4.w)] S = .ok (first x).w S := by
  simp only [bMin, Iv.seqOf]
  rw [show likes x = x :: likes7 x from rfl, best_w]
  rfl
theorem isring_w {x : T4} (h : x.R) (S : Store) : F_is_ring [x.w] S = .ok (.bl true) S := isring_ok h S
theorem arelike_w {x y : T4} (h : x.R) (h' : y.R) (S : Store) : F_are_like [x.w, y.w] S = .ok (.bl (decide (first x = first y))) S := by
  have e1 : F_check_ring [x.w] S = .ok .non S := check_ok h S
  have e2 : F_check_ring [y.w] S = .ok .non S := check_ok h' S
  have e3 : F_first_like [x.w] S = .ok (first x).w S := first_spec x.a x.b x.c x.d S
  have e4 : F_first_like [y.w] S = .ok (first y).w S := first_spec y.a y.b y.c y.d S
  simp [F_are_like, b_are_like, b_are_like_1, eVar, eOp, aNil, aCons, sSeq, sEx, sRet, eFn, Res.bind, start0, runF, fin, e1, e2, e3, e4, eq_w]
theorem lawlikes_w (x : T4) (S : Store) : F_law_likes [x.w] S = .ok (.lst ((likes x).map T4.w)) S := by
  cases x with
  | mk a b c d =>
    have e : ((likes ⟨a, b, c, d⟩).map T4.w) = [t4 a b c d, t4 b c d a, t4 c d a b, t4 d a b c, t4 d c b a, t4 c b a d, t4 b a d c, t4 a d c b] := rfl
    rw [e]
    simp [F_law_likes, b_law_likes, b_law_likes_1, T4.w, Iv.eVar, Iv.eC, Iv.eOp, Iv.eUn, Iv.aNil, Iv.aCons, Iv.eCall, Iv.eTup, Iv.eLst, Iv.eNew, Iv.eAnd, Iv.eOr, Iv.wNot, Iv.bVal, Iv.bAnd, Iv.bOr, Iv.bNot, Iv.eIf, Iv.eChain, Iv.mkTup, Iv.mkLst, Iv.mkNew, Iv.wAdd, Iv.wSub, Iv.wMul, Iv.wFdiv, Iv.wMod, Iv.wPow, Iv.wNeg, Iv.wEq, Iv.wNe, Iv.wLt, Iv.wLe, Iv.wGt, Iv.wGe, Iv.wIs, Iv.wIsNot, Iv.isFlat, Iv.inW, Iv.wIn, Iv.wNotIn, Iv.wIx, Iv.dat, Iv.datL, Iv.datS, Iv.listOf, Iv.seqOf, Iv.stillOf, Iv.oNo, Iv.oSome, Iv.cutW, Iv.wSl, Iv.eSl, Iv.gNm, Iv.gsNil, Iv.gsCons, Iv.gTu, Iv.setAt, Iv.gIx, Iv.sNext, Iv.sSeq, Iv.sIf, Iv.sRet, Iv.sEx, Iv.sAsg, Iv.sRaise, Iv.sBreak, Iv.sCont, Iv.iSeq, Iv.iRg, Iv.iRg2, Iv.forF, Iv.sFor, Iv.gUl, Iv.sPr, Iv.sPr3, Iv.wipeE, Iv.bYes, Iv.lcF, Iv.eLc, Iv.okW, Iv.okWs, Iv.okO, Iv.frzW, Iv.frzWs, Iv.fin, Iv.finX, Iv.finN, Iv.start0, Iv.runF, Iv.runN, Iv.eFn, Iv.bSum, Iv.bSorted, Iv.bLen, Iv.bAbs, Iv.bTuple, Iv.bList, Iv.bListN, Iv.blsOf, Iv.bAll, Iv.bAny, Iv.bInt, Iv.bIsi, Iv.isi, Iv.wRev, Iv.eLm, Iv.mAppend, Iv.mPop, Iv.mPopAt, Iv.lc2F, Iv.eLc2, Iv.Res.bind, Iv.rangeW, Iv.wAddN, Iv.shut_eq, Iv.iZp, Iv.zipW, L2.atI, ixN, sx0, sx1, sx2, sx3, sxn, sy0, sy1, sy2, sy3, syn]
theorem lcF_none {g : GF} {t : BF} {e : EF} {d0 : En} {S : Store} : ∀ (l : List W), (∀ w ∈ l, ∃ d1, g w d0 S = .ok d1 S ∧ t d1 S = .ok false S) → lcF g t e d0 l S = .ok [] S
  | [], _ => rfl
  | w :: r, h => by
    obtain ⟨d1, h1, h2⟩ := h w List.mem_cons_self
    simp only [lcF, h1, h2, Res.bind]
    exact lcF_none r fun w hw => h w (List.mem_cons_of_mem _ hw)
theorem shaped_k (a b c d : Int) : SeqAt.shaped (.str (kindS a b c d)) = true := by
  unfold kindS
  split
  · decide +kernel
  · split <;> decide +kernel
/-! ### a value does not differ from itself -/
theorem gd_fr (t b : Int) (S : Store) : wNe (fr t b) (fr t b) S = .ok (.bl false) S := by
  have e : datS (fr t b) S = some (.tuple [.int (frT t b), .int (frB t b)]) := rfl
  have s : SeqAt.shaped (.tuple [.int (frT t b), .int (frB t b)]) = true := rfl
  simp [wNe, e, s, PyData.eqv, PyData.eqvAll]
theorem gd_pr (t b t' b' : Int) (S : Store) : wNe (.tup [fr t b, fr t' b']) (.tup [fr t b, fr t' b']) S = .ok (.bl false) S := by
  have e : datS (.tup [fr t b, fr t' b']) S = some (.tuple [.tuple [.int (frT t b), .int (frB t b)], .tuple [.int (frT t' b'), .int (frB t' b')]]) := rfl
  have s : SeqAt.shaped (.tuple [.tuple [.int (frT t b), .int (frB t b)], .tuple [.int (frT t' b'), .int (frB t' b')]]) = true := rfl
  simp [wNe, e, s, PyData.eqv, PyData.eqvAll]
theorem gd_CS (x y z w : Int) (S : Store) : wNe (CS x y z w) (CS x y z w) S = .ok (.bl false) S := gd_pr _ _ _ _ S
theorem gd_cs (x y s z w t : Int) (S : Store) : wNe (.tup [cs x y s, cs z w t]) (.tup [cs x y s, cs z w t]) S = .ok (.bl false) S := gd_pr _ _ _ _ S
theorem gd_os (x y z w s : Int) (S : Store) : wNe (os x y z w s) (os x y z w s) S = .ok (.bl false) S := gd_pr _ _ _ _ S
theorem gd_ii (x y : Int) (S : Store) : wNe (.tup [.int x, .int y]) (.tup [.int x, .int y]) S = .ok (.bl false) S := by
  have s : SeqAt.shaped (.tuple [.int x, .int y]) = true := rfl
  simp [wNe, datS, dat, datL, s, PyData.eqv, PyData.eqvAll]
theorem gd_cl (p q r : Int) (S : Store) : wNe (clW p q r) (clW p q r) S = .ok (.bl false) S := gd_ii _ _ S
theorem gd_bl (b : Bool) (S : Store) : wNe (.bl b) (.bl b) S = .ok (.bl false) S := by cases b <;> rfl
theorem gd_i (i : Int) (S : Store) : wNe (.int i) (.int i) S = .ok (.bl false) S := by simp [wNe, datS, dat, shaped_i, PyData.eqv]
theorem gd_nb (p q : Int) (u v : Bool) (S : Store) : wNe (.tup ((nbI [p, q] [u, v]).map .int)) (.tup ((nbI [p, q] [u, v]).map .int)) S = .ok (.bl false) S := by
  have s1 : SeqAt.shaped (.tuple [.int p, .int q]) = true := rfl
  have s2 : SeqAt.shaped (.tuple [.int p]) = true := rfl
  have s3 : SeqAt.shaped (.tuple []) = true := rfl
  have s4 : SeqAt.shaped (.tuple [.int q]) = true := rfl
  cases u <;> cases v <;> simp [nbI, wNe, datS, dat, datL, s1, s2, s3, s4, PyData.eqv, PyData.eqvAll]
theorem gd_nb0 (a b c d : Int) (S : Store) : wNe (nb0 a b c d) (nb0 a b c d) S = .ok (.bl false) S := gd_nb _ _ _ _ S
theorem gd_nb1 (a b c d : Int) (S : Store) : wNe (nb1 a b c d) (nb1 a b c d) S = .ok (.bl false) S := gd_nb _ _ _ _ S
theorem gd_nb2 (a b c d : Int) (S : Store) : wNe (nb2 a b c d) (nb2 a b c d) S = .ok (.bl false) S := gd_nb _ _ _ _ S
theorem gd_nb3 (a b c d : Int) (S : Store) : wNe (nb3 a b c d) (nb3 a b c d) S = .ok (.bl false) S := gd_nb _ _ _ _ S
end G
end
section
set_option maxHeartbeats 4000000
set_option maxRecDepth 100000
namespace G
open PySem L2 Iv
/-! ### rings in proportion -/
def G4 (x : T4) : Nat := Nat.gcd (Int.gcd x.a x.b) (Int.gcd x.c x.d)
def T4.mul (x : T4) (n : Int) : T4 := ⟨x.a * n, x.b * n, x.c * n, x.d * n⟩
def T4.div (x : T4) (n : Int) : T4 := ⟨x.a / n, x.b / n, x.c / n, x.d / n⟩
theorem G4_mul (x : T4) (n : Int) : G4 (x.mul n) = G4 x * n.natAbs := by
  unfold G4 T4.mul
  simp only [Int.gcd_mul_right, Nat.gcd_mul_right]
theorem G4_dvd (x : T4) : ((G4 x : Nat) : Int) ∣ x.a ∧ ((G4 x : Nat) : Int) ∣ x.b ∧ ((G4 x : Nat) : Int) ∣ x.c ∧ ((G4 x : Nat) : Int) ∣ x.d := by
  have h1 : ((G4 x : Nat) : Int) ∣ (Int.gcd x.a x.b : Int) := Int.natCast_dvd_natCast.mpr (Nat.gcd_dvd_left _ _)
  have h2 : ((G4 x : Nat) : Int) ∣ (Int.gcd x.c x.d : Int) := Int.natCast_dvd_natCast.mpr (Nat.gcd_dvd_right _ _)
  exact ⟨Int.dvd_trans h1 (Int.gcd_dvd_left _ _), Int.dvd_trans h1 (Int.gcd_dvd_right _ _), Int.dvd_trans h2 (Int.gcd_dvd_left _ _), Int.dvd_trans h2 (Int.gcd_dvd_right _ _)⟩
theorem G4_pos {x : T4} (h : 0 < x.a) : 0 < G4 x := by
  unfold G4
  exact Nat.gcd_pos_of_pos_left _ (Int.gcd_pos_of_ne_zero_left _ (by omega))
theorem G4_le {x : T4} (h : 0 < x.a) : ((G4 x : Nat) : Int) ≤ x.a := Int.le_of_dvd h (G4_dvd x).1
theorem div_mul (x : T4) : (x.div (G4 x)).mul (G4 x) = x := by
  obtain ⟨h1, h2, h3, h4⟩ := G4_dvd x
  apply T4.ext' <;> simp only [T4.mul, T4.div]
  · exact Int.ediv_mul_cancel h1
  · exact Int.ediv_mul_cancel h2
  · exact Int.ediv_mul_cancel h3
  · exact Int.ediv_mul_cancel h4
/-- the proportion of the law -/
def pro (z y : T4) : Prop := z.a * y.a - z.a * y.a = 0 ∧ z.b * y.a - z.a * y.b = 0 ∧ z.c * y.a - z.a * y.c = 0 ∧ z.d * y.a - z.a * y.d = 0
instance (z y : T4) : Decidable (pro z y) := by unfold pro; infer_instance
theorem pro_mul {z y : T4} (h : pro z y) : z.mul y.a = y.mul z.a := by
  obtain ⟨h1, h2, h3, h4⟩ := h
  apply T4.ext' <;> simp only [T4.mul] <;> grind
theorem pro_iff {z y : T4} (hz : 0 < z.a) (hy : 0 < y.a) : pro z y ↔ z.div (G4 z) = y.div (G4 y) := by
  have gz := G4_pos hz
  have gy := G4_pos hy
  constructor
  · intro h
    have e := pro_mul h
    have e1 := congrArg G4 e
    rw [G4_mul, G4_mul] at e1
    have e2 : ((G4 z : Nat) : Int) * y.a = (G4 y : Int) * z.a := by
      have q1 : (y.a.natAbs : Int) = y.a := by omega
      have q2 : (z.a.natAbs : Int) = z.a := by omega
      rw [← q1, ← q2]
      exact_mod_cast e1
    have mz := div_mul z
    have my := div_mul y
    obtain ⟨u, hu⟩ : ∃ u, u = z.div (G4 z) := ⟨_, rfl⟩
    obtain ⟨v, hv⟩ : ∃ v, v = y.div (G4 y) := ⟨_, rfl⟩
    rw [← hu] at mz ⊢
    rw [← hv] at my ⊢
    have za : u.a * (G4 z : Int) = z.a := congrArg T4.a mz
    have ya : v.a * (G4 y : Int) = y.a := congrArg T4.a my
    have key : ∀ p q : Int, p * (G4 z : Int) * y.a = q * (G4 y : Int) * z.a → p = q := by
      intro p q hpq
      have h1 : p * ((G4 z : Int) * y.a) = q * ((G4 y : Int) * z.a) := by rw [← Int.mul_assoc, ← Int.mul_assoc]; exact hpq
      rw [e2] at h1
      have h2 : (G4 y : Int) * z.a ≠ 0 := Int.ne_of_gt (Int.mul_pos (by omega) hz)
      exact Int.eq_of_mul_eq_mul_right h2 h1
    have fa := congrArg T4.a e
    have fb := congrArg T4.b e
    have fc := congrArg T4.c e
    have fd := congrArg T4.d e
    simp only [T4.mul] at fa fb fc fd
    have zb : u.b * (G4 z : Int) = z.b := congrArg T4.b mz
    have yb : v.b * (G4 y : Int) = y.b := congrArg T4.b my
    have zc : u.c * (G4 z : Int) = z.c := congrArg T4.c mz
    have yc : v.c * (G4 y : Int) = y.c := congrArg T4.c my
    have zd : u.d * (G4 z : Int) = z.d := congrArg T4.d mz
    have yd : v.d * (G4 y : Int) = y.d := congrArg T4.d my
    apply T4.ext'
    · exact key _ _ (by rw [za, ya]; exact fa)
    · exact key _ _ (by rw [zb, yb]; exact fb)
    · exact key _ _ (by rw [zc, yc]; exact fc)
    · exact key _ _ (by rw [zd, yd]; exact fd)
  · intro h
    have mz := div_mul z
    have my := div_mul y
    rw [h] at mz
    generalize y.div (G4 y) = u at *
    rw [← mz, ← my]
    unfold pro T4.mul
    generalize ((G4 z : Nat) : Int) = p
    generalize ((G4 y : Nat) : Int) = q
    simp only
    refine ⟨?_, ?_, ?_, ?_⟩ <;> grind
theorem likes_div {x z : T4} (n : Int) (h : z ∈ likes x) : z.div n ∈ likes (x.div n) := by
  rw [likes_mem] at *
  rcases h with rfl | rfl | rfl | rfl | rfl | rfl | rfl | rfl <;> simp [T4.r1, T4.r2, T4.r3, T4.m, T4.div]
theorem div_likes {x u : T4} (n : Int) (h : u ∈ likes (x.div n)) : ∃ z ∈ likes x, u = z.div n := by
  rw [likes_mem] at h
  rcases h with rfl | rfl | rfl | rfl | rfl | rfl | rfl | rfl
  · exact ⟨x, by simp [likes], rfl⟩
  · exact ⟨x.r1, by simp [likes, likes7], rfl⟩
  · exact ⟨x.r2, by simp [likes, likes7], rfl⟩
  · exact ⟨x.r3, by simp [likes, likes7], rfl⟩
  · exact ⟨x.m, by simp [likes, likes7], rfl⟩
  · exact ⟨x.m.r1, by simp [likes, likes7], rfl⟩
  · exact ⟨x.m.r2, by simp [likes, likes7], rfl⟩
  · exact ⟨x.m.r3, by simp [likes, likes7], rfl⟩
theorem G4_likes {x z : T4} (h : z ∈ likes x) : G4 z = G4 x := by
  have l1 : ∀ p q r s : Int, Nat.gcd (Int.gcd q r) (Int.gcd s p) = Nat.gcd (Int.gcd p q) (Int.gcd r s) := by
    intro p q r s
    unfold Int.gcd
    rw [Nat.gcd_assoc, Nat.gcd_comm p.natAbs, Nat.gcd_assoc, Nat.gcd_comm p.natAbs, Nat.gcd_assoc]
  have l2 : ∀ p q r s : Int, Nat.gcd (Int.gcd s r) (Int.gcd q p) = Nat.gcd (Int.gcd p q) (Int.gcd r s) := by
    intro p q r s
    rw [Nat.gcd_comm, Int.gcd_comm q p, Int.gcd_comm s r]
  rw [likes_mem] at h
  unfold G4
  rcases h with rfl | rfl | rfl | rfl | rfl | rfl | rfl | rfl <;> simp only [T4.r1, T4.r2, T4.r3, T4.m]
  · exact l1 _ _ _ _
  · exact (l1 _ _ _ _).trans (l1 _ _ _ _)
  · exact (l1 _ _ _ _).trans ((l1 _ _ _ _).trans (l1 _ _ _ _))
  · exact l2 _ _ _ _
  · exact (l1 _ _ _ _).trans (l2 _ _ _ _)
  · exact (l1 _ _ _ _).trans ((l1 _ _ _ _).trans (l2 _ _ _ _))
  · exact (l1 _ _ _ _).trans ((l1 _ _ _ _).trans ((l1 _ _ _ _).trans (l2 _ _ _ _)))
def red (x : T4) : T4 := first (x.div (G4 x))
theorem red_iff {x y : T4} (hx : x.R) (hy : y.R) : red x = red y ↔ ∃ z ∈ likes x, pro z y := by
  have y0 : 0 < y.a := by have := hy.1; omega
  unfold red
  rw [first_iff]
  constructor
  · intro h
    obtain ⟨z, hz, e⟩ := div_likes _ h
    refine ⟨z, hz, ?_⟩
    have z0 : 0 < z.a := by have := (R_likes hx hz).1; omega
    rw [pro_iff z0 y0, G4_likes hz]
    exact e.symm
  · rintro ⟨z, hz, hp⟩
    have z0 : 0 < z.a := by have := (R_likes hx hz).1; omega
    rw [pro_iff z0 y0, G4_likes hz] at hp
    rw [← hp]
    exact likes_div _ hz
end G
end
section
set_option maxHeartbeats 4000000
set_option maxRecDepth 100000
namespace G
open PySem L2 Iv
def b_law_call : SF := (sSeq (sAsg (eVar 1) (gTu 3 (gsCons (gNm 2) (gsCons (gNm 3) (gsCons (gNm 4) gsNil))))) (sRet (eCallT 3 [F_opened, F_count_positions, F_other_squares] (eVar 0) (aCons (eVar 2) (aCons (eVar 3) (aCons (eVar 4) aNil))))))
def F_law_call : List W → Store → Res W := runF 5 b_law_call
def b_law_name_1 : SF := (sSeq (sAsg (eOp wAdd (eVar 1) (eLst (aCons (eUn (bIsX "NothingToUndo") (eVar 0)) aNil))) (gNm 1)) (sRet (eIf (bVal (eOp wEq (eLm mCount (eVar 1) (aCons (eC (.bl true)) aNil)) (eC (.int 1)))) (eLm mIndex (eVar 1) (aCons (eC (.bl true)) aNil)) (eUn wNeg (eC (.int 1))))))
def b_law_name_2 : SF := (sSeq (sAsg (eOp wAdd (eVar 1) (eLst (aCons (eUn (bIsX "NoRing") (eVar 0)) (aCons (eUn (bIsX "TooLong") (eVar 0)) aNil)))) (gNm 1)) b_law_name_1)
def b_law_name_3 : SF := (sSeq (sAsg (eOp wAdd (eVar 1) (eLst (aCons (eUn (bIsX "NoPosition") (eVar 0)) (aCons (eUn (bIsX "ZeroDiagonal") (eVar 0)) aNil)))) (gNm 1)) b_law_name_2)
def b_law_name_4 : SF := (sSeq (sAsg (eOp wAdd (eVar 1) (eLst (aCons (eUn (bIsX "InvalidPerimeter") (eVar 0)) (aCons (eUn (bIsX "InvalidText") (eVar 0)) aNil)))) (gNm 1)) b_law_name_3)
def b_law_name_5 : SF := (sSeq (sAsg (eOp wAdd (eVar 1) (eLst (aCons (eUn (bIsX "InvalidKind") (eVar 0)) (aCons (eUn (bIsX "InvalidLength") (eVar 0)) aNil)))) (gNm 1)) b_law_name_4)
def b_law_name_6 : SF := (sSeq (sAsg (eLst (aCons (eUn (bIsX "InvalidRing") (eVar 0)) (aCons (eUn (bIsX "InvalidNumber") (eVar 0)) aNil))) (gNm 1)) b_law_name_5)
def b_law_name : SF := (sSeq (sIf (bNot (bVal (eUn (bIsX "ValueError") (eVar 0)))) (sRet (eUn wNeg (eC (.int 1)))) sNext) b_law_name_6)
def F_law_name : List W → Store → Res W := runF 2 b_law_name
def b_law_outcome_1 : SF := (sSeq (sIf (bVal (eOp wIs (eVar 2) (eC .non))) (sRet (eTup (aCons (eC (.str "returned")) (aCons (eVar 3) aNil)))) sNext) (sRet (eTup (aCons (eC (.str "raised")) (aCons (eFn 1 F_law_name (aCons (eVar 2) aNil)) aNil)))))
def b_law_outcome_2 : SF := (sSeq (sTry 2 F_law_call (aCons (eVar 0) (aCons (eVar 1) aNil)) 3 4 2) b_law_outcome_1)
def b_law_outcome_3 : SF := (sSeq (sAsg (eC .non) (gNm 3)) b_law_outcome_2)
def b_law_outcome : SF := (sSeq (sAsg (eC .non) (gNm 2)) b_law_outcome_3)
def F_law_outcome : List W → Store → Res W := runF 5 b_law_outcome
def b_law_raises_1 : SF := (sSeq (sAsg (eOp wAdd (eVar 1) (eLst (aCons (eC (.str "zero")) (aCons (eC (.str "noring")) (aCons (eC (.str "long")) (aCons (eC (.str "undo")) aNil)))))) (gNm 1)) (sRet (eTup (aCons (eC (.str "raised")) (aCons (eLm mIndex (eVar 1) (aCons (eVar 0) aNil)) aNil)))))
def b_law_raises : SF := (sSeq (sAsg (eLst (aCons (eC (.str "ring")) (aCons (eC (.str "number")) (aCons (eC (.str "kind")) (aCons (eC (.str "length")) (aCons (eC (.str "perimeter")) (aCons (eC (.str "text")) (aCons (eC (.str "none")) aNil)))))))) (gNm 1)) b_law_raises_1)
def F_law_raises : List W → Store → Res W := runF 2 b_law_raises
def b_law_equation_1 : SF := (sSeq (sAsg (eOp wSub (eVar 7) (eOp wMul (eVar 1) (eOp wAdd (eOp wMul (eVar 2) (eVar 3)) (eOp wMul (eVar 4) (eVar 5))))) (gNm 7)) (sRet (eTup (aCons (eFn 2 F_law_frac (aCons (eVar 6) (aCons (eVar 1) aNil))) (aCons (eFn 2 F_law_frac (aCons (eUn wNeg (eVar 7)) (aCons (eVar 1) aNil))) aNil)))))
def b_law_equation_2 : SF := (sSeq (sAsg (eOp wAdd (eVar 7) (eOp wMul (eOp wMul (eVar 3) (eVar 5)) (eOp wSub (eOp wSub (eOp wAdd (eOp wAdd (eVar 2) (eVar 4)) (eVar 1)) (eVar 3)) (eVar 5)))) (gNm 7)) b_law_equation_1)
def b_law_equation_3 : SF := (sSeq (sAsg (eOp wMul (eOp wMul (eVar 2) (eVar 4)) (eOp wSub (eOp wSub (eOp wAdd (eOp wAdd (eVar 3) (eVar 5)) (eVar 1)) (eVar 2)) (eVar 4))) (gNm 7)) b_law_equation_2)
def b_law_equation_4 : SF := (sSeq (sAsg (eOp wAdd (eVar 6) (eOp wMul (eOp wSub (eVar 2) (eVar 3)) (eOp wSub (eVar 4) (eVar 5)))) (gNm 6)) b_law_equation_3)
def b_law_equation_5 : SF := (sSeq (sAsg (eOp wMul (eVar 1) (eOp wSub (eOp wAdd (eOp wAdd (eOp wAdd (eVar 2) (eVar 3)) (eVar 4)) (eVar 5)) (eVar 1))) (gNm 6)) b_law_equation_4)
def b_law_equation : SF := (sSeq (sAsg (eVar 0) (gUl 4 (gsCons (gNm 2) (gsCons (gNm 3) (gsCons (gNm 4) (gsCons (gNm 5) gsNil)))))) b_law_equation_5)
def F_law_equation : List W → Store → Res W := runF 8 b_law_equation
noncomputable def b_law_k20_1 : SF := shut (sSeq (sAsg (eFn 1 F_law_raises (aCons (eIf (bVal (eVar 7)) (eC (.str "zero")) (eC (.str "none"))) aNil)) (gNm 8)) (sRet (eOp wEq (eLc [14] (iRg (aCons (eC (.int 3)) aNil)) (gNm 14) bYes (eFn 2 F_law_outcome (aCons (eVar 14) (aCons (eTup (aCons (eVar 2) (aCons (eVar 3) (aCons (eVar 6) aNil)))) aNil)))) (eOp wMul (eLst (aCons (eVar 8) aNil)) (eC (.int 3))))))
noncomputable def b_law_k20_2 : SF := shut (sSeq (sAsg (eLc [15] (iSeq (eOp wAdd (eSl (eVar 2) (oSome (eVar 3)) oNo) (eSl (eVar 2) oNo (oSome (eVar 3))))) (gNm 15) bYes (eOp wMul (eVar 15) (eVar 15))) (gNm 13)) (sRet (eOp wEq (eTup (aCons (eVar 11) (aCons (eVar 12) aNil))) (eFn 2 F_law_equation (aCons (eVar 13) (aCons (eVar 6) aNil))))))
noncomputable def b_law_k20_3 : SF := shut (sSeq (sAsg (eFn 3 F_other_squares (aCons (eVar 2) (aCons (eVar 3) (aCons (eVar 6) aNil)))) (gTu 2 (gsCons (gNm 11) (gsCons (gNm 12) gsNil)))) b_law_k20_2)
noncomputable def b_law_k20_4 : SF := shut (sSeq (sIf (bVal (eOp wNe (eFn 3 F_count_positions (aCons (eVar 2) (aCons (eVar 3) (aCons (eVar 6) aNil)))) (eIf (bVal (eOp wEq (eVar 10) (eLst aNil))) (eC (.int 2)) (eC (.int 1))))) (sRet (eC (.bl false))) sNext) b_law_k20_3)
noncomputable def b_law_k20_5 : SF := shut (sSeq (sAsg (eLc [15] (iSeq (eVar 9)) (gNm 15) (bVal (eOp wEq (eCall bAbs (aCons (eOp wIx (eVar 15) (eC (.int 0))) aNil)) (eOp wIx (eVar 15) (eC (.int 1))))) (eVar 15)) (gNm 10)) b_law_k20_4)
noncomputable def b_law_k20_6 : SF := shut (sSeq (sIf (bOr (bVal (eOp wNe (eFn 3 F_opened (aCons (eVar 2) (aCons (eVar 3) (aCons (eVar 6) aNil)))) (eVar 9))) (bVal (eOp wNe (eLc [15] (iSeq (eVar 9)) (gNm 15) (bVal (eOp wGt (eCall bAbs (aCons (eOp wIx (eVar 15) (eC (.int 0))) aNil)) (eOp wIx (eVar 15) (eC (.int 1))))) (eVar 15)) (eLst aNil)))) (sRet (eC (.bl false))) sNext) b_law_k20_5)
noncomputable def b_law_k20_7 : SF := shut (sSeq (sAsg (eTup (aCons (eFn 3 F_law_cosine (aCons (eVar 2) (aCons (eVar 3) (aCons (eVar 6) aNil)))) (aCons (eFn 3 F_law_cosine (aCons (eVar 2) (aCons (eOp wAdd (eVar 3) (eC (.int 2))) (aCons (eVar 6) aNil)))) aNil))) (gNm 9)) b_law_k20_6)
noncomputable def b_law_k20_8 : SF := shut (sSeq (sIf (bOr (bNot (bVal (eVar 7))) (bVal (eOp wEq (eVar 6) (eC (.int 0))))) b_law_k20_1 sNext) b_law_k20_7)
noncomputable def b_law_k20_9 : SF := shut (sSeq (sIf (bVal (eOp wNe (eFn 3 F_has_position (aCons (eVar 2) (aCons (eVar 3) (aCons (eVar 6) aNil)))) (eVar 7))) (sRet (eC (.bl false))) sNext) b_law_k20_8)
noncomputable def b_law_k20_10 : SF := shut (sSeq (sAsg (eChain wLe wLe (eOp wMul (eVar 4) (eVar 4)) (eVar 6) (eOp wMul (eVar 5) (eVar 5))) (gNm 7)) b_law_k20_9)
noncomputable def b_law_k20_11 : SF := shut (sSeq (sAsg (eCall bMin (aCons (eC (.int 10000)) (aCons (eOp wAdd (eVar 6) (eOp wMul (eFn 3 F_law_pick (aCons (eVar 0) (aCons (eVar 1) (aCons (eLst (aCons (eC (.int 0)) (aCons (eC (.int 0)) (aCons (eC (.int 0)) (aCons (eC (.int 1)) (aCons (eUn wNeg (eC (.int 1))) aNil)))))) aNil)))) (eCall bInt (aCons (eOp wGt (eVar 6) (eC (.int 0))) aNil)))) aNil))) (gNm 6)) b_law_k20_10)
noncomputable def b_law_k20_12 : SF := shut (sSeq (sAsg (eFn 3 F_law_pick (aCons (eVar 0) (aCons (eVar 1) (aCons (eLst (aCons (eOp wMul (eVar 4) (eVar 4)) (aCons (eOp wMul (eVar 5) (eVar 5)) (aCons (eOp wAdd (eOp wMul (eVar 4) (eVar 4)) (eFn 3 F_law_draw (aCons (eVar 0) (aCons (eVar 1) (aCons (eOp wAdd (eOp wMul (eVar 5) (eVar 5)) (eC (.int 1))) aNil))))) aNil)))) aNil)))) (gNm 6)) b_law_k20_11)
noncomputable def b_law_k20_13 : SF := shut (sSeq (sAsg (eFn 2 F_law_bounds (aCons (eVar 2) (aCons (eVar 3) aNil))) (gTu 2 (gsCons (gNm 4) (gsCons (gNm 5) gsNil)))) b_law_k20_12)
noncomputable def b_law_k20_14 : SF := shut (sSeq (sAsg (eTup (aCons (eFn 3 F_law_ring (aCons (eVar 0) (aCons (eVar 1) (aCons (eFn 3 F_law_pick (aCons (eVar 0) (aCons (eVar 1) (aCons (eLst (aCons (eC (.int 4)) (aCons (eC (.int 12)) (aCons (eC (.int 50)) aNil)))) aNil)))) aNil)))) (aCons (eFn 3 F_law_draw (aCons (eVar 0) (aCons (eVar 1) (aCons (eC (.int 2)) aNil)))) aNil))) (gTu 2 (gsCons (gNm 2) (gsCons (gNm 3) gsNil)))) b_law_k20_13)
noncomputable def b_law_k20 : SF := shut (sSeq (sAsg (eFn 1 F_law_town (aCons (eVar 0) aNil)) (gNm 1)) b_law_k20_14)
noncomputable def F_law_k20 : List W → Store → Res W := runF 16 b_law_k20
end G
end
section
set_option maxHeartbeats 4000000
set_option maxRecDepth 100000
namespace G
open PySem L2 Iv
/-! ### the names of caught exceptions -/
def exI (c : Str) : Int := ((errs.findIdx fun d => decide (d = c) : Nat) : Int)
theorem bIsX_ok {S : Store} {k : Nat} {c : Str} (hS : S[k]? = some (.E c)) (hc : c ∈ errs) (d : Str) : bIsX d (.mt k) S = .ok (.bl (decide (d = "ValueError") || decide (c = d))) S := by simp [bIsX, hS, hc]
def fnd (f : Str → Bool) : List W := [.bl (f "InvalidRing"), .bl (f "InvalidNumber"), .bl (f "InvalidKind"), .bl (f "InvalidLength"), .bl (f "InvalidPerimeter"), .bl (f "InvalidText"), .bl (f "NoPosition"), .bl (f "ZeroDiagonal"), .bl (f "NoRing"), .bl (f "TooLong"), .bl (f "NothingToUndo")]
theorem name_gen {S : Store} {k : Nat} {f : Str → Bool} {i : Int} (h : ∀ d, bIsX d (.mt k) S = .ok (.bl (f d)) S) (hv : f "ValueError" = true) (h1 : mCount (.lst (fnd f)) [.bl true] S = .ok (.int 1) S) (h2 : mIndex (.lst (fnd f)) [.bl true] S = .ok (.int i) S) :
    F_law_name [.mt k] S = .ok (.int i) S := by
  have w1 : wEq (.int 1) (.int 1) S = .ok (.bl true) S := rfl
  simp only [fnd] at h1 h2
  simp [F_law_name, b_law_name, b_law_name_1, b_law_name_2, b_law_name_3, b_law_name_4, b_law_name_5, b_law_name_6, Iv.eVar, Iv.eC, Iv.eOp, Iv.eUn, Iv.aNil, Iv.aCons, Iv.eCall, Iv.eTup, Iv.eLst, Iv.eNew, Iv.eAnd, Iv.eOr, Iv.wNot, Iv.bVal, Iv.bAnd, Iv.bOr, Iv.bNot, Iv.eIf, Iv.eChain, Iv.mkTup, Iv.mkLst, Iv.mkNew, Iv.wAdd, Iv.wSub, Iv.wMul, Iv.wFdiv, Iv.wMod, Iv.wPow, Iv.wNeg, Iv.wNe, Iv.wLt, Iv.wLe, Iv.wGt, Iv.wGe, Iv.wIs, Iv.wIsNot, Iv.isFlat, Iv.inW, Iv.wIn, Iv.wNotIn, Iv.wIx, Iv.dat, Iv.datL, Iv.datS, Iv.listOf, Iv.seqOf, Iv.stillOf, Iv.oNo, Iv.oSome, Iv.cutW, Iv.wSl, Iv.eSl, Iv.gNm, Iv.gsNil, Iv.gsCons, Iv.gTu, Iv.setAt, Iv.gIx, Iv.sNext, Iv.sSeq, Iv.sIf, Iv.sRet, Iv.sEx, Iv.sAsg, Iv.sRaise, Iv.sBreak, Iv.sCont, Iv.iSeq, Iv.iRg, Iv.iRg2, Iv.forF, Iv.sFor, Iv.gUl, Iv.sPr, Iv.sPr3, Iv.wipeE, Iv.bYes, Iv.lcF, Iv.eLc, Iv.okW, Iv.okWs, Iv.okO, Iv.frzW, Iv.frzWs, Iv.fin, Iv.finX, Iv.finN, Iv.start0, Iv.runF, Iv.runN, Iv.eFn, Iv.bSum, Iv.bSorted, Iv.bLen, Iv.bAbs, Iv.bTuple, Iv.bList, Iv.bListN, Iv.blsOf, Iv.bAll, Iv.bAny, Iv.bInt, Iv.bIsi, Iv.isi, Iv.wRev, Iv.eLm, Iv.mAppend, Iv.mPop, Iv.mPopAt, Iv.lc2F, Iv.eLc2, Iv.Res.bind, Iv.rangeW, Iv.wAddN, Iv.shut_eq, Iv.iZp, Iv.zipW, h, hv, h1, h2, w1]
theorem name_ok {S : Store} {k : Nat} {c : Str} (hS : S[k]? = some (.E c)) (hc : c ∈ errs) : F_law_name [.mt k] S = .ok (.int (exI c)) S := by
  have h := bIsX_ok hS hc
  refine name_gen h rfl ?_ ?_
  · simp only [errs, List.mem_cons, List.mem_nil_iff, or_false] at hc
    rcases hc with rfl | rfl | rfl | rfl | rfl | rfl | rfl | rfl | rfl | rfl | rfl <;> rfl
  · simp only [errs, List.mem_cons, List.mem_nil_iff, or_false] at hc
    rcases hc with rfl | rfl | rfl | rfl | rfl | rfl | rfl | rfl | rfl | rfl | rfl <;> rfl
/-! ### outcomes -/
theorem okWs_ints (n : Nat) : ∀ ts : List Int, okWs n (ts.map .int) = true
  | [] => rfl
  | t :: r => by simp only [List.map_cons, okWs, okW, Bool.true_and, okWs_ints n r]
theorem town_okO {ns : List Int} {c : Int} {o : MO} {n : Nat} (h : Town ns c o) : okO n o = true := by
  obtain ⟨ts, _, rfl⟩ := h
  simp only [okO, okWs, okW, Bool.true_and, okWs_ints]
theorem outcome_exc {S : Store} {c : Str} {w a : W} (hc : c ∈ errs) (hk : S.all (okO S.length) = true) (h : F_law_call [w, a] S = .exc c S) : F_law_outcome [w, a] S = .ok (.tup [.str "raised", .int (exI c)]) S := by
  have n := name_ok (S := S ++ [.E c]) (k := S.length) (c := c) (by simp) hc
  have hne : ¬ (S ++ [MO.E c]).length = S.length := by simp
  have tk : (S ++ [MO.E c]).take S.length = S := by simp
  have is : wIs (.mt S.length) .non (S ++ [.E c]) = .ok (.bl false) (S ++ [.E c]) := rfl
  simp [F_law_outcome, b_law_outcome, b_law_outcome_1, b_law_outcome_2, b_law_outcome_3, Iv.eVar, Iv.eC, Iv.eOp, Iv.eUn, Iv.aNil, Iv.aCons, Iv.eCall, Iv.eTup, Iv.eLst, Iv.eNew, Iv.eAnd, Iv.eOr, Iv.wNot, Iv.bVal, Iv.bAnd, Iv.bOr, Iv.bNot, Iv.eIf, Iv.eChain, Iv.mkTup, Iv.mkLst, Iv.mkNew, Iv.wAdd, Iv.wSub, Iv.wMul, Iv.wFdiv, Iv.wMod, Iv.wPow, Iv.wNeg, Iv.wEq, Iv.wNe, Iv.wLt, Iv.wLe, Iv.wGt, Iv.wGe, Iv.wIsNot, Iv.isFlat, Iv.inW, Iv.wIn, Iv.wNotIn, Iv.wIx, Iv.dat, Iv.datL, Iv.datS, Iv.listOf, Iv.seqOf, Iv.stillOf, Iv.oNo, Iv.oSome, Iv.cutW, Iv.wSl, Iv.eSl, Iv.gNm, Iv.gsNil, Iv.gsCons, Iv.gTu, Iv.setAt, Iv.gIx, Iv.sNext, Iv.sSeq, Iv.sIf, Iv.sRet, Iv.sEx, Iv.sAsg, Iv.sRaise, Iv.sBreak, Iv.sCont, Iv.iSeq, Iv.iRg, Iv.iRg2, Iv.forF, Iv.sFor, Iv.gUl, Iv.sPr, Iv.sPr3, Iv.wipeE, Iv.bYes, Iv.lcF, Iv.eLc, Iv.okW, Iv.okWs, Iv.frzW, Iv.frzWs, Iv.fin, Iv.finX, Iv.finN, Iv.start0, Iv.runF, Iv.runN, Iv.eFn, Iv.bSum, Iv.bSorted, Iv.bLen, Iv.bAbs, Iv.bTuple, Iv.bList, Iv.bListN, Iv.blsOf, Iv.bAll, Iv.bAny, Iv.bInt, Iv.bIsi, Iv.isi, Iv.wRev, Iv.eLm, Iv.mAppend, Iv.mPop, Iv.mPopAt, Iv.lc2F, Iv.eLc2, Iv.Res.bind, Iv.rangeW, Iv.wAddN, Iv.shut_eq, Iv.iZp, Iv.zipW, sTry, h, hc, n, is, hk]
theorem outcome_ret {S : Store} {w a r : W} (h : F_law_call [w, a] S = .ok r S) : F_law_outcome [w, a] S = .ok (.tup [.str "returned", r]) S := by
  have is : wIs .non .non S = .ok (.bl true) S := rfl
  simp [F_law_outcome, b_law_outcome, b_law_outcome_1, b_law_outcome_2, b_law_outcome_3, Iv.eVar, Iv.eC, Iv.eOp, Iv.eUn, Iv.aNil, Iv.aCons, Iv.eCall, Iv.eTup, Iv.eLst, Iv.eNew, Iv.eAnd, Iv.eOr, Iv.wNot, Iv.bVal, Iv.bAnd, Iv.bOr, Iv.bNot, Iv.eIf, Iv.eChain, Iv.mkTup, Iv.mkLst, Iv.mkNew, Iv.wAdd, Iv.wSub, Iv.wMul, Iv.wFdiv, Iv.wMod, Iv.wPow, Iv.wNeg, Iv.wEq, Iv.wNe, Iv.wLt, Iv.wLe, Iv.wGt, Iv.wGe, Iv.wIsNot, Iv.isFlat, Iv.inW, Iv.wIn, Iv.wNotIn, Iv.wIx, Iv.dat, Iv.datL, Iv.datS, Iv.listOf, Iv.seqOf, Iv.stillOf, Iv.oNo, Iv.oSome, Iv.cutW, Iv.wSl, Iv.eSl, Iv.gNm, Iv.gsNil, Iv.gsCons, Iv.gTu, Iv.setAt, Iv.gIx, Iv.sNext, Iv.sSeq, Iv.sIf, Iv.sRet, Iv.sEx, Iv.sAsg, Iv.sRaise, Iv.sBreak, Iv.sCont, Iv.iSeq, Iv.iRg, Iv.iRg2, Iv.forF, Iv.sFor, Iv.gUl, Iv.sPr, Iv.sPr3, Iv.wipeE, Iv.bYes, Iv.lcF, Iv.eLc, Iv.okW, Iv.okWs, Iv.okO, Iv.frzW, Iv.frzWs, Iv.fin, Iv.finX, Iv.finN, Iv.start0, Iv.runF, Iv.runN, Iv.eFn, Iv.bSum, Iv.bSorted, Iv.bLen, Iv.bAbs, Iv.bTuple, Iv.bList, Iv.bListN, Iv.blsOf, Iv.bAll, Iv.bAny, Iv.bInt, Iv.bIsi, Iv.isi, Iv.wRev, Iv.eLm, Iv.mAppend, Iv.mPop, Iv.mPopAt, Iv.lc2F, Iv.eLc2, Iv.Res.bind, Iv.rangeW, Iv.wAddN, Iv.shut_eq, Iv.iZp, Iv.zipW, sTry, h, is]
def exN : List (Str × Str) := [("ring", "InvalidRing"), ("number", "InvalidNumber"), ("kind", "InvalidKind"), ("length", "InvalidLength"), ("perimeter", "InvalidPerimeter"), ("text", "InvalidText"), ("none", "NoPosition"), ("zero", "ZeroDiagonal"), ("noring", "NoRing"), ("long", "TooLong"), ("undo", "NothingToUndo")]
def exL : List Str := ["ring", "number", "kind", "length", "perimeter", "text", "none", "zero", "noring", "long", "undo"]
theorem exL_ok : SeqAt.shaped (.list (exL.map PyData.str)) = true := by decide +kernel
theorem exL_1 (n : Str) (h : n ∈ exL) : SeqAt.shaped (.str n) = true := by
  revert n
  decide +kernel
theorem exN_ix : ∀ p, p ∈ exN → p.1 ∈ exL ∧ ((exL.map PyData.str).findIdx? fun z => PyData.eqv z (.str p.1)) = some (errs.findIdx fun d => decide (d = p.2)) := by decide +kernel
theorem raises_ok {n c : Str} (h : (n, c) ∈ exN) (S : Store) : F_law_raises [.str n] S = .ok (.tup [.str "raised", .int (exI c)]) S := by
  obtain ⟨h1, h2⟩ := exN_ix _ h
  have m : mIndex (.lst [.str "ring", .str "number", .str "kind", .str "length", .str "perimeter", .str "text", .str "none", .str "zero", .str "noring", .str "long", .str "undo"]) [.str n] S = .ok (.int (exI c)) S := by
    have e : datS (.lst [.str "ring", .str "number", .str "kind", .str "length", .str "perimeter", .str "text", .str "none", .str "zero", .str "noring", .str "long", .str "undo"]) S = some (.list (exL.map PyData.str)) := rfl
    simp only [mIndex, e, dat, exL_ok, exL_1 n h1, Bool.and_self, if_true, h2]
    rfl
  simp [F_law_raises, b_law_raises, b_law_raises_1, Iv.eVar, Iv.eC, Iv.eOp, Iv.eUn, Iv.aNil, Iv.aCons, Iv.eCall, Iv.eTup, Iv.eLst, Iv.eNew, Iv.eAnd, Iv.eOr, Iv.wNot, Iv.bVal, Iv.bAnd, Iv.bOr, Iv.bNot, Iv.eIf, Iv.eChain, Iv.mkTup, Iv.mkLst, Iv.mkNew, Iv.wAdd, Iv.wSub, Iv.wMul, Iv.wFdiv, Iv.wMod, Iv.wPow, Iv.wNeg, Iv.wEq, Iv.wNe, Iv.wLt, Iv.wLe, Iv.wGt, Iv.wGe, Iv.wIs, Iv.wIsNot, Iv.isFlat, Iv.inW, Iv.wIn, Iv.wNotIn, Iv.wIx, Iv.dat, Iv.datL, Iv.datS, Iv.listOf, Iv.seqOf, Iv.stillOf, Iv.oNo, Iv.oSome, Iv.cutW, Iv.wSl, Iv.eSl, Iv.gNm, Iv.gsNil, Iv.gsCons, Iv.gTu, Iv.setAt, Iv.gIx, Iv.sNext, Iv.sSeq, Iv.sIf, Iv.sRet, Iv.sEx, Iv.sAsg, Iv.sRaise, Iv.sBreak, Iv.sCont, Iv.iSeq, Iv.iRg, Iv.iRg2, Iv.forF, Iv.sFor, Iv.gUl, Iv.sPr, Iv.sPr3, Iv.wipeE, Iv.bYes, Iv.lcF, Iv.eLc, Iv.okW, Iv.okWs, Iv.okO, Iv.frzW, Iv.frzWs, Iv.fin, Iv.finX, Iv.finN, Iv.start0, Iv.runF, Iv.runN, Iv.eFn, Iv.bSum, Iv.bSorted, Iv.bLen, Iv.bAbs, Iv.bTuple, Iv.bList, Iv.bListN, Iv.blsOf, Iv.bAll, Iv.bAny, Iv.bInt, Iv.bIsi, Iv.isi, Iv.wRev, Iv.eLm, Iv.mAppend, Iv.mPop, Iv.mPopAt, Iv.lc2F, Iv.eLc2, Iv.Res.bind, Iv.rangeW, Iv.wAddN, Iv.shut_eq, Iv.iZp, Iv.zipW, m]
end G
end
section
set_option maxHeartbeats 4000000
set_option maxRecDepth 100000
namespace G
open PySem L2 Iv
def b_ring_text : SF := (sRet (eSm wJoin (eC (.str "-")) (eLc [1] (iSeq (eVar 0)) (gNm 1) bYes (eCall bStr (aCons (eVar 1) aNil)))))
def F_ring_text : List W → Store → Res W := runF 2 b_ring_text
def b_format_ring : SF := (sSeq (sEx (eFn 1 F_check_ring (aCons (eVar 0) aNil))) (sRet (eFn 1 F_ring_text (aCons (eVar 0) aNil))))
def F_format_ring : List W → Store → Res W := runF 1 b_format_ring
def b_length_of : SF := (sRet (eIf (bAnd (bVal (eChain wLe wLe (eC (.int 1)) (eCall bLen (aCons (eVar 0) aNil)) (eC (.int 2)))) (bVal (eCall bAll (aCons (eLc [1] (iStrF (eVar 0)) (gNm 1) bYes (eOp wInS (eVar 1) (eC (.str "0123456789")))) aNil)))) (eCall bIntS (aCons (eVar 0) aNil)) (eC (.int 0))))
def F_length_of : List W → Store → Res W := runF 2 b_length_of
def b_parse_ring_1 : SF := (sSeq (sIf (bOr (bNot (bVal (eFn 1 F_is_ring (aCons (eVar 1) aNil)))) (bVal (eOp wNe (eFn 1 F_ring_text (aCons (eVar 1) aNil)) (eVar 0)))) (sRaise "InvalidText") sNext) (sRet (eVar 1)))
def b_parse_ring_2 : SF := (sSeq (sAsg (eCall bTuple (aCons (eLc [2] (iSeq (eSm wSplit (eVar 0) (eC (.str "-")))) (gNm 2) bYes (eFn 1 F_length_of (aCons (eVar 2) aNil))) aNil)) (gNm 1)) b_parse_ring_1)
def b_parse_ring : SF := (sSeq (sIf (bNot (bVal (eUn (bIsi .str) (eVar 0)))) (sRaise "InvalidText") sNext) b_parse_ring_2)
def F_parse_ring : List W → Store → Res W := runF 3 b_parse_ring
def b_law_call_k72 : SF := (sRet (eFn 1 F_parse_ring (aCons (eVar 1) aNil)))
def F_law_call_k72 : List W → Store → Res W := runF 2 b_law_call_k72
def b_law_outcome_k72_1 : SF := (sSeq (sIf (bVal (eOp wIs (eVar 2) (eC .non))) (sRet (eTup (aCons (eC (.str "returned")) (aCons (eVar 3) aNil)))) sNext) (sRet (eTup (aCons (eC (.str "raised")) (aCons (eFn 1 F_law_name (aCons (eVar 2) aNil)) aNil)))))
def b_law_outcome_k72_2 : SF := (sSeq (sTry 2 F_law_call_k72 (aCons (eVar 0) (aCons (eVar 1) aNil)) 3 4 2) b_law_outcome_k72_1)
def b_law_outcome_k72_3 : SF := (sSeq (sAsg (eC .non) (gNm 3)) b_law_outcome_k72_2)
def b_law_outcome_k72 : SF := (sSeq (sAsg (eC .non) (gNm 2)) b_law_outcome_k72_3)
def F_law_outcome_k72 : List W → Store → Res W := runF 5 b_law_outcome_k72
noncomputable def b_law_k72_1 : SF := shut (sSeq (sAsg (eIf (bVal (eVar 10)) (eTup (aCons (eC (.str "returned")) (aCons (eVar 9) aNil))) (eFn 1 F_law_raises (aCons (eC (.str "text")) aNil))) (gNm 11)) (sIf (bVal (eOp wNe (eFn 2 F_law_outcome_k72 (aCons (eC (.int 0)) (aCons (eVar 8) aNil))) (eVar 11))) (sRet (eC (.bl false))) sNext))
noncomputable def b_law_k72_2 : SF := shut (sSeq (sAsg (eAnd (eOp wEq (eCall bLen (aCons (eVar 9) aNil)) (eC (.int 4))) (eAnd (eOp wGt (eCall bMin (aCons (eVar 9) aNil)) (eC (.int 0))) (eFn 1 F_law_closes (aCons (eVar 9) aNil)))) (gNm 10)) b_law_k72_1)
noncomputable def b_law_k72_3 : SF := shut (sSeq (sAsg (eCall bTuple (aCons (eLc [14] (iSeq (eSm wSplit (eVar 8) (eC (.str "-")))) (gNm 14) bYes (eGet (eVar 4) (eVar 14) (eC (.int 0)))) aNil)) (gNm 9)) b_law_k72_2)
noncomputable def b_law_k72_4 : SF := shut (sSeq (sAsg (eOp wAdd (eOp wAdd (eSl (eVar 3) oNo (oSome (eVar 6))) (eVar 7)) (eSl (eVar 3) (oSome (eOp wAdd (eVar 6) (eFn 3 F_law_draw (aCons (eVar 0) (aCons (eVar 1) (aCons (eC (.int 2)) aNil)))))) oNo)) (gNm 8)) b_law_k72_3)
noncomputable def b_law_k72_5 : SF := shut (sSeq (sAsg (eFn 3 F_law_pick (aCons (eVar 0) (aCons (eVar 1) (aCons (eOp wAdd (eCall bListS (aCons (eC (.str "0123456789-+ ")) aNil)) (eLst (aCons (eC (.str "")) aNil))) aNil)))) (gNm 7)) b_law_k72_4)
noncomputable def b_law_k72_6 : SF := shut (sSeq (sAsg (eFn 3 F_law_draw (aCons (eVar 0) (aCons (eVar 1) (aCons (eOp wAdd (eCall bLen (aCons (eVar 3) aNil)) (eC (.int 1))) aNil)))) (gNm 6)) b_law_k72_5)
noncomputable def b_law_k72_7 : SF := shut (sSeq (sIf (bVal (eOp wNe (eLc [15] (iSeq (eVar 12)) (gNm 15) (bVal (eOp wNe (eFn 2 F_law_outcome_k72 (aCons (eC (.int 0)) (aCons (eVar 15) aNil))) (eFn 1 F_law_raises (aCons (eC (.str "text")) aNil)))) (eVar 15)) (eLst aNil))) (sRet (eC (.bl false))) sNext) (sRet (eOp wEq (eFn 2 F_law_outcome_k72 (aCons (eC (.int 0)) (aCons (eC (.str "2-4-5-4")) aNil))) (eTup (aCons (eC (.str "returned")) (aCons (eTup (aCons (eC (.int 2)) (aCons (eC (.int 4)) (aCons (eC (.int 5)) (aCons (eC (.int 4)) aNil))))) aNil))))))
noncomputable def b_law_k72_8 : SF := shut (sSeq (sAsg (eOp wAdd (eVar 12) (eLst (aCons (eC (.str "1-2-3-6")) (aCons (eC (.str "1-1-1-1 ")) (aCons (eC (.str " 1-1-1-1")) (aCons (eC (.str "1--1-1")) (aCons (eC (.str "+1-1-1-1")) (aCons (eC (.str "1.1.1.1")) (aCons (eVar 2) (aCons (eLst (aCons (eVar 3) aNil)) (aCons (eC (.bl true)) (aCons (eC (.str "a-1-1-1")) aNil)))))))))))) (gNm 12)) b_law_k72_7)
noncomputable def b_law_k72_9 : SF := shut (sSeq (sAsg (eLst (aCons (eC .non) (aCons (eC (.int 5)) (aCons (eC (.str "")) (aCons (eC (.str "-")) (aCons (eC (.str "1")) (aCons (eC (.str "1-1-1")) (aCons (eC (.str "1-1-1-1-1")) (aCons (eC (.str "1-1-1-1-")) (aCons (eC (.str "-1-1-1-1")) (aCons (eC (.str "1-1-1-01")) (aCons (eC (.str "1-1-1-51")) (aCons (eC (.str "0-1-1-1")) aNil))))))))))))) (gNm 12)) b_law_k72_8)
noncomputable def b_law_k72_10 : SF := shut (sSeq (sFor (iRg (aCons (eC (.int 12)) aNil)) (gNm 5) b_law_k72_6) b_law_k72_9)
noncomputable def b_law_k72_11 : SF := shut (sSeq (sAsg (eCall bDict (aCons (eLc [13] (iRg2 (aCons (eC (.int 1)) (aCons (eC (.int 51)) aNil))) (gNm 13) bYes (eTup (aCons (eCall bStr (aCons (eVar 13) aNil)) (aCons (eVar 13) aNil)))) aNil)) (gNm 4)) b_law_k72_10)
noncomputable def b_law_k72_12 : SF := shut (sSeq (sIf (bOr (bVal (eOp wNe (eFn 1 F_format_ring (aCons (eVar 2) aNil)) (eVar 3))) (bVal (eOp wNe (eFn 2 F_law_outcome_k72 (aCons (eC (.int 0)) (aCons (eVar 3) aNil))) (eTup (aCons (eC (.str "returned")) (aCons (eVar 2) aNil)))))) (sRet (eC (.bl false))) sNext) b_law_k72_11)
noncomputable def b_law_k72_13 : SF := shut (sSeq (sAsg (eSm wJoin (eC (.str "-")) (eLc [13] (iSeq (eVar 2)) (gNm 13) bYes (eCall bStr (aCons (eVar 13) aNil)))) (gNm 3)) b_law_k72_12)
noncomputable def b_law_k72_14 : SF := shut (sSeq (sAsg (eFn 3 F_law_ring (aCons (eVar 0) (aCons (eVar 1) (aCons (eFn 3 F_law_pick (aCons (eVar 0) (aCons (eVar 1) (aCons (eLst (aCons (eC (.int 4)) (aCons (eC (.int 12)) (aCons (eC (.int 50)) aNil)))) aNil)))) aNil)))) (gNm 2)) b_law_k72_13)
noncomputable def b_law_k72 : SF := shut (sSeq (sAsg (eFn 1 F_law_town (aCons (eVar 0) aNil)) (gNm 1)) b_law_k72_14)
noncomputable def F_law_k72 : List W → Store → Res W := runF 16 b_law_k72
end G
end
section
set_option maxHeartbeats 4000000
set_option maxRecDepth 100000
namespace G
open PySem L2 Iv
/-! ### numbers as texts -/
def num (i : Int) : Str := Str.ofString (toString i)
def numsI : List (Str × Int) := (rng 1 50).map fun i => (num i, i)
def numOf (s : Str) : Int := (numsI.lookup s).getD 0
def digs : List Nat := [48, 49, 50, 51, 52, 53, 54, 55, 56, 57]
def lenL : List Nat → Int
  | [c] => if c ∈ digs then (c : Int) - 48 else 0
  | [c, d] => if c ∈ digs ∧ d ∈ digs then 10 * ((c : Int) - 48) + ((d : Int) - 48) else 0
  | _ => 0
def lenOf (w : Str) : Int := lenL w.cps.toList
theorem dig_t : ("0123456789" : Str).cps.toList = digs := by decide +kernel
theorem int1 : ∀ c ∈ digs, PySem.intText? ⟨#[c]⟩ = some ((c : Int) - 48) := by decide +kernel
theorem int2 : ∀ c ∈ digs, ∀ d ∈ digs, PySem.intText? ⟨#[c, d]⟩ = some (10 * ((c : Int) - 48) + ((d : Int) - 48)) := by decide +kernel
theorem num_f : ∀ i ∈ rng 1 50, (num i).length ≤ 2 ∧ PyData.strOk (num i) = true ∧ i.natAbs.log2 < 1920 ∧ lenOf (num i) = i ∧ numOf (num i) = i ∧ ¬ 45 ∈ TL.tl (num i) := by decide +kernel
theorem num_nd : ((rng 1 50).map num).Nodup := by decide +kernel
theorem in_rng {i : Int} (h1 : 1 ≤ i) (h2 : i ≤ 50) : i ∈ rng 1 50 := (rng_mem 50 1 i).mpr ⟨h1, by omega⟩
theorem length_ok (w : Str) (h : w.length ≤ 100000) (S : Store) : F_length_of [.str w] S = .ok (.int (lenOf w)) S := by
  obtain ⟨⟨l⟩⟩ := w
  have hl : (⟨⟨l⟩⟩ : Str).length = l.length := rfl
  have hc : chrs ⟨⟨l⟩⟩ = l.map fun c => .str ⟨#[c]⟩ := rfl
  have wi : ∀ c : Nat, wInS (.str ⟨#[c]⟩) (.str "0123456789") S = .ok (.bl (decide (c ∈ digs))) S := fun c => by
    show Res.ok (W.bl (decide (c ∈ ("0123456789" : Str).cps.toList))) S = _
    rw [dig_t]
  rw [hl] at h
  have bl : bLen [.str ⟨⟨l⟩⟩] S = .ok (.int (l.length : Int)) S := by simp only [bLen, hl]; rw [if_pos h]
  match l, h, hc, bl with
  | [], _, _, bl =>
    simp only [List.length_nil] at bl
    simp [F_length_of, b_length_of, Iv.eVar, Iv.eC, Iv.eOp, Iv.eUn, Iv.aNil, Iv.aCons, Iv.eCall, Iv.eTup, Iv.eLst, Iv.eNew, Iv.eAnd, Iv.eOr, Iv.wNot, Iv.bVal, Iv.bAnd, Iv.bOr, Iv.bNot, Iv.eIf, Iv.eChain, Iv.mkTup, Iv.mkLst, Iv.mkNew, Iv.wAdd, Iv.wSub, Iv.wMul, Iv.wFdiv, Iv.wMod, Iv.wPow, Iv.wNeg, Iv.wEq, Iv.wNe, Iv.wLt, Iv.wLe, Iv.wGt, Iv.wGe, Iv.wIs, Iv.wIsNot, Iv.isFlat, Iv.inW, Iv.wIn, Iv.wNotIn, Iv.wIx, Iv.dat, Iv.datL, Iv.datS, Iv.listOf, Iv.seqOf, Iv.stillOf, Iv.oNo, Iv.oSome, Iv.cutW, Iv.wSl, Iv.eSl, Iv.gNm, Iv.gsNil, Iv.gsCons, Iv.gTu, Iv.setAt, Iv.gIx, Iv.sNext, Iv.sSeq, Iv.sIf, Iv.sRet, Iv.sEx, Iv.sAsg, Iv.sRaise, Iv.sBreak, Iv.sCont, Iv.iSeq, Iv.iRg, Iv.iRg2, Iv.forF, Iv.sFor, Iv.gUl, Iv.sPr, Iv.sPr3, Iv.wipeE, Iv.bYes, Iv.lcF, Iv.eLc, Iv.okW, Iv.okWs, Iv.okO, Iv.frzW, Iv.frzWs, Iv.fin, Iv.finX, Iv.finN, Iv.start0, Iv.runF, Iv.runN, Iv.eFn, Iv.bSum, Iv.bSorted, Iv.bAbs, Iv.bTuple, Iv.bList, Iv.bListN, Iv.blsOf, Iv.bAll, Iv.bAny, Iv.bInt, Iv.bIsi, Iv.isi, Iv.wRev, Iv.eLm, Iv.mAppend, Iv.mPop, Iv.mPopAt, Iv.lc2F, Iv.eLc2, Iv.Res.bind, Iv.rangeW, Iv.wAddN, Iv.shut_eq, Iv.iZp, Iv.zipW, bl, lenOf, lenL]
  | [c], _, hc, bl =>
    simp only [List.length_cons, List.length_nil, List.map_cons, List.map_nil] at bl hc
    by_cases q : c ∈ digs
    · have it := int1 c q
      have il : (⟨#[c]⟩ : Str).length ≤ 640 := by show 1 ≤ 640; decide
      have bi : bIntS [.str ⟨⟨[c]⟩⟩] S = .ok (.int ((c : Int) - 48)) S := by
        show (match PySem.intText? ⟨#[c]⟩ with | some n => _ | none => _) = _
        rw [it]
        simp only
        rw [if_pos il]
      simp [F_length_of, b_length_of, Iv.eVar, Iv.eC, Iv.eOp, Iv.eUn, Iv.aNil, Iv.aCons, Iv.eCall, Iv.eTup, Iv.eLst, Iv.eNew, Iv.eAnd, Iv.eOr, Iv.wNot, Iv.bVal, Iv.bAnd, Iv.bOr, Iv.bNot, Iv.eIf, Iv.eChain, Iv.mkTup, Iv.mkLst, Iv.mkNew, Iv.wAdd, Iv.wSub, Iv.wMul, Iv.wFdiv, Iv.wMod, Iv.wPow, Iv.wNeg, Iv.wEq, Iv.wNe, Iv.wLt, Iv.wLe, Iv.wGt, Iv.wGe, Iv.wIs, Iv.wIsNot, Iv.isFlat, Iv.inW, Iv.wIn, Iv.wNotIn, Iv.wIx, Iv.dat, Iv.datL, Iv.datS, Iv.listOf, Iv.seqOf, Iv.stillOf, Iv.oNo, Iv.oSome, Iv.cutW, Iv.wSl, Iv.eSl, Iv.gNm, Iv.gsNil, Iv.gsCons, Iv.gTu, Iv.setAt, Iv.gIx, Iv.sNext, Iv.sSeq, Iv.sIf, Iv.sRet, Iv.sEx, Iv.sAsg, Iv.sRaise, Iv.sBreak, Iv.sCont, Iv.iSeq, Iv.iRg, Iv.iRg2, Iv.forF, Iv.sFor, Iv.gUl, Iv.sPr, Iv.sPr3, Iv.wipeE, Iv.bYes, Iv.lcF, Iv.eLc, Iv.okW, Iv.okWs, Iv.okO, Iv.frzW, Iv.frzWs, Iv.fin, Iv.finX, Iv.finN, Iv.start0, Iv.runF, Iv.runN, Iv.eFn, Iv.bSum, Iv.bSorted, Iv.bAbs, Iv.bTuple, Iv.bList, Iv.bListN, Iv.blsOf, Iv.bAll, Iv.bAny, Iv.bInt, Iv.bIsi, Iv.isi, Iv.wRev, Iv.eLm, Iv.mAppend, Iv.mPop, Iv.mPopAt, Iv.lc2F, Iv.eLc2, Iv.Res.bind, Iv.rangeW, Iv.wAddN, Iv.shut_eq, Iv.iZp, Iv.zipW, bl, iStrF, hc, wi, q, bi, lenOf, lenL]
    · simp [F_length_of, b_length_of, Iv.eVar, Iv.eC, Iv.eOp, Iv.eUn, Iv.aNil, Iv.aCons, Iv.eCall, Iv.eTup, Iv.eLst, Iv.eNew, Iv.eAnd, Iv.eOr, Iv.wNot, Iv.bVal, Iv.bAnd, Iv.bOr, Iv.bNot, Iv.eIf, Iv.eChain, Iv.mkTup, Iv.mkLst, Iv.mkNew, Iv.wAdd, Iv.wSub, Iv.wMul, Iv.wFdiv, Iv.wMod, Iv.wPow, Iv.wNeg, Iv.wEq, Iv.wNe, Iv.wLt, Iv.wLe, Iv.wGt, Iv.wGe, Iv.wIs, Iv.wIsNot, Iv.isFlat, Iv.inW, Iv.wIn, Iv.wNotIn, Iv.wIx, Iv.dat, Iv.datL, Iv.datS, Iv.listOf, Iv.seqOf, Iv.stillOf, Iv.oNo, Iv.oSome, Iv.cutW, Iv.wSl, Iv.eSl, Iv.gNm, Iv.gsNil, Iv.gsCons, Iv.gTu, Iv.setAt, Iv.gIx, Iv.sNext, Iv.sSeq, Iv.sIf, Iv.sRet, Iv.sEx, Iv.sAsg, Iv.sRaise, Iv.sBreak, Iv.sCont, Iv.iSeq, Iv.iRg, Iv.iRg2, Iv.forF, Iv.sFor, Iv.gUl, Iv.sPr, Iv.sPr3, Iv.wipeE, Iv.bYes, Iv.lcF, Iv.eLc, Iv.okW, Iv.okWs, Iv.okO, Iv.frzW, Iv.frzWs, Iv.fin, Iv.finX, Iv.finN, Iv.start0, Iv.runF, Iv.runN, Iv.eFn, Iv.bSum, Iv.bSorted, Iv.bAbs, Iv.bTuple, Iv.bList, Iv.bListN, Iv.blsOf, Iv.bAll, Iv.bAny, Iv.bInt, Iv.bIsi, Iv.isi, Iv.wRev, Iv.eLm, Iv.mAppend, Iv.mPop, Iv.mPopAt, Iv.lc2F, Iv.eLc2, Iv.Res.bind, Iv.rangeW, Iv.wAddN, Iv.shut_eq, Iv.iZp, Iv.zipW, bl, iStrF, hc, wi, q, lenOf, lenL]
  | [c, d], _, hc, bl =>
    simp only [List.length_cons, List.length_nil, List.map_cons, List.map_nil] at bl hc
    by_cases q : c ∈ digs
    · by_cases q2 : d ∈ digs
      · have it := int2 c q d q2
        have il : (⟨#[c, d]⟩ : Str).length ≤ 640 := by show 2 ≤ 640; decide
        have bi : bIntS [.str ⟨⟨[c, d]⟩⟩] S = .ok (.int (10 * ((c : Int) - 48) + ((d : Int) - 48))) S := by
          show (match PySem.intText? ⟨#[c, d]⟩ with | some n => _ | none => _) = _
          rw [it]
          simp only
          rw [if_pos il]
        simp [F_length_of, b_length_of, Iv.eVar, Iv.eC, Iv.eOp, Iv.eUn, Iv.aNil, Iv.aCons, Iv.eCall, Iv.eTup, Iv.eLst, Iv.eNew, Iv.eAnd, Iv.eOr, Iv.wNot, Iv.bVal, Iv.bAnd, Iv.bOr, Iv.bNot, Iv.eIf, Iv.eChain, Iv.mkTup, Iv.mkLst, Iv.mkNew, Iv.wAdd, Iv.wSub, Iv.wMul, Iv.wFdiv, Iv.wMod, Iv.wPow, Iv.wNeg, Iv.wEq, Iv.wNe, Iv.wLt, Iv.wLe, Iv.wGt, Iv.wGe, Iv.wIs, Iv.wIsNot, Iv.isFlat, Iv.inW, Iv.wIn, Iv.wNotIn, Iv.wIx, Iv.dat, Iv.datL, Iv.datS, Iv.listOf, Iv.seqOf, Iv.stillOf, Iv.oNo, Iv.oSome, Iv.cutW, Iv.wSl, Iv.eSl, Iv.gNm, Iv.gsNil, Iv.gsCons, Iv.gTu, Iv.setAt, Iv.gIx, Iv.sNext, Iv.sSeq, Iv.sIf, Iv.sRet, Iv.sEx, Iv.sAsg, Iv.sRaise, Iv.sBreak, Iv.sCont, Iv.iSeq, Iv.iRg, Iv.iRg2, Iv.forF, Iv.sFor, Iv.gUl, Iv.sPr, Iv.sPr3, Iv.wipeE, Iv.bYes, Iv.lcF, Iv.eLc, Iv.okW, Iv.okWs, Iv.okO, Iv.frzW, Iv.frzWs, Iv.fin, Iv.finX, Iv.finN, Iv.start0, Iv.runF, Iv.runN, Iv.eFn, Iv.bSum, Iv.bSorted, Iv.bAbs, Iv.bTuple, Iv.bList, Iv.bListN, Iv.blsOf, Iv.bAll, Iv.bAny, Iv.bInt, Iv.bIsi, Iv.isi, Iv.wRev, Iv.eLm, Iv.mAppend, Iv.mPop, Iv.mPopAt, Iv.lc2F, Iv.eLc2, Iv.Res.bind, Iv.rangeW, Iv.wAddN, Iv.shut_eq, Iv.iZp, Iv.zipW, bl, iStrF, hc, wi, q, q2, bi, lenOf, lenL]
      · simp [F_length_of, b_length_of, Iv.eVar, Iv.eC, Iv.eOp, Iv.eUn, Iv.aNil, Iv.aCons, Iv.eCall, Iv.eTup, Iv.eLst, Iv.eNew, Iv.eAnd, Iv.eOr, Iv.wNot, Iv.bVal, Iv.bAnd, Iv.bOr, Iv.bNot, Iv.eIf, Iv.eChain, Iv.mkTup, Iv.mkLst, Iv.mkNew, Iv.wAdd, Iv.wSub, Iv.wMul, Iv.wFdiv, Iv.wMod, Iv.wPow, Iv.wNeg, Iv.wEq, Iv.wNe, Iv.wLt, Iv.wLe, Iv.wGt, Iv.wGe, Iv.wIs, Iv.wIsNot, Iv.isFlat, Iv.inW, Iv.wIn, Iv.wNotIn, Iv.wIx, Iv.dat, Iv.datL, Iv.datS, Iv.listOf, Iv.seqOf, Iv.stillOf, Iv.oNo, Iv.oSome, Iv.cutW, Iv.wSl, Iv.eSl, Iv.gNm, Iv.gsNil, Iv.gsCons, Iv.gTu, Iv.setAt, Iv.gIx, Iv.sNext, Iv.sSeq, Iv.sIf, Iv.sRet, Iv.sEx, Iv.sAsg, Iv.sRaise, Iv.sBreak, Iv.sCont, Iv.iSeq, Iv.iRg, Iv.iRg2, Iv.forF, Iv.sFor, Iv.gUl, Iv.sPr, Iv.sPr3, Iv.wipeE, Iv.bYes, Iv.lcF, Iv.eLc, Iv.okW, Iv.okWs, Iv.okO, Iv.frzW, Iv.frzWs, Iv.fin, Iv.finX, Iv.finN, Iv.start0, Iv.runF, Iv.runN, Iv.eFn, Iv.bSum, Iv.bSorted, Iv.bAbs, Iv.bTuple, Iv.bList, Iv.bListN, Iv.blsOf, Iv.bAll, Iv.bAny, Iv.bInt, Iv.bIsi, Iv.isi, Iv.wRev, Iv.eLm, Iv.mAppend, Iv.mPop, Iv.mPopAt, Iv.lc2F, Iv.eLc2, Iv.Res.bind, Iv.rangeW, Iv.wAddN, Iv.shut_eq, Iv.iZp, Iv.zipW, bl, iStrF, hc, wi, q, q2, lenOf, lenL]
    · simp [F_length_of, b_length_of, Iv.eVar, Iv.eC, Iv.eOp, Iv.eUn, Iv.aNil, Iv.aCons, Iv.eCall, Iv.eTup, Iv.eLst, Iv.eNew, Iv.eAnd, Iv.eOr, Iv.wNot, Iv.bVal, Iv.bAnd, Iv.bOr, Iv.bNot, Iv.eIf, Iv.eChain, Iv.mkTup, Iv.mkLst, Iv.mkNew, Iv.wAdd, Iv.wSub, Iv.wMul, Iv.wFdiv, Iv.wMod, Iv.wPow, Iv.wNeg, Iv.wEq, Iv.wNe, Iv.wLt, Iv.wLe, Iv.wGt, Iv.wGe, Iv.wIs, Iv.wIsNot, Iv.isFlat, Iv.inW, Iv.wIn, Iv.wNotIn, Iv.wIx, Iv.dat, Iv.datL, Iv.datS, Iv.listOf, Iv.seqOf, Iv.stillOf, Iv.oNo, Iv.oSome, Iv.cutW, Iv.wSl, Iv.eSl, Iv.gNm, Iv.gsNil, Iv.gsCons, Iv.gTu, Iv.setAt, Iv.gIx, Iv.sNext, Iv.sSeq, Iv.sIf, Iv.sRet, Iv.sEx, Iv.sAsg, Iv.sRaise, Iv.sBreak, Iv.sCont, Iv.iSeq, Iv.iRg, Iv.iRg2, Iv.forF, Iv.sFor, Iv.gUl, Iv.sPr, Iv.sPr3, Iv.wipeE, Iv.bYes, Iv.lcF, Iv.eLc, Iv.okW, Iv.okWs, Iv.okO, Iv.frzW, Iv.frzWs, Iv.fin, Iv.finX, Iv.finN, Iv.start0, Iv.runF, Iv.runN, Iv.eFn, Iv.bSum, Iv.bSorted, Iv.bAbs, Iv.bTuple, Iv.bList, Iv.bListN, Iv.blsOf, Iv.bAll, Iv.bAny, Iv.bInt, Iv.bIsi, Iv.isi, Iv.wRev, Iv.eLm, Iv.mAppend, Iv.mPop, Iv.mPopAt, Iv.lc2F, Iv.eLc2, Iv.Res.bind, Iv.rangeW, Iv.wAddN, Iv.shut_eq, Iv.iZp, Iv.zipW, bl, iStrF, hc, wi, q, lenOf, lenL]
  | c :: d :: e :: r, h, _, bl =>
    have n1 : ¬ (((c :: d :: e :: r).length : Int) ≤ 2) := by simp only [List.length_cons]; omega
    have n2 : (1 : Int) ≤ ((c :: d :: e :: r).length : Int) := by simp only [List.length_cons]; omega
    generalize ((c :: d :: e :: r).length : Int) = n at *
    simp [F_length_of, b_length_of, Iv.eVar, Iv.eC, Iv.eOp, Iv.eUn, Iv.aNil, Iv.aCons, Iv.eCall, Iv.eTup, Iv.eLst, Iv.eNew, Iv.eAnd, Iv.eOr, Iv.wNot, Iv.bVal, Iv.bAnd, Iv.bOr, Iv.bNot, Iv.eIf, Iv.eChain, Iv.mkTup, Iv.mkLst, Iv.mkNew, Iv.wAdd, Iv.wSub, Iv.wMul, Iv.wFdiv, Iv.wMod, Iv.wPow, Iv.wNeg, Iv.wEq, Iv.wNe, Iv.wLt, Iv.wLe, Iv.wGt, Iv.wGe, Iv.wIs, Iv.wIsNot, Iv.isFlat, Iv.inW, Iv.wIn, Iv.wNotIn, Iv.wIx, Iv.dat, Iv.datL, Iv.datS, Iv.listOf, Iv.seqOf, Iv.stillOf, Iv.oNo, Iv.oSome, Iv.cutW, Iv.wSl, Iv.eSl, Iv.gNm, Iv.gsNil, Iv.gsCons, Iv.gTu, Iv.setAt, Iv.gIx, Iv.sNext, Iv.sSeq, Iv.sIf, Iv.sRet, Iv.sEx, Iv.sAsg, Iv.sRaise, Iv.sBreak, Iv.sCont, Iv.iSeq, Iv.iRg, Iv.iRg2, Iv.forF, Iv.sFor, Iv.gUl, Iv.sPr, Iv.sPr3, Iv.wipeE, Iv.bYes, Iv.lcF, Iv.eLc, Iv.okW, Iv.okWs, Iv.okO, Iv.frzW, Iv.frzWs, Iv.fin, Iv.finX, Iv.finN, Iv.start0, Iv.runF, Iv.runN, Iv.eFn, Iv.bSum, Iv.bSorted, Iv.bAbs, Iv.bTuple, Iv.bList, Iv.bListN, Iv.blsOf, Iv.bAll, Iv.bAny, Iv.bInt, Iv.bIsi, Iv.isi, Iv.wRev, Iv.eLm, Iv.mAppend, Iv.mPop, Iv.mPopAt, Iv.lc2F, Iv.eLc2, Iv.Res.bind, Iv.rangeW, Iv.wAddN, Iv.shut_eq, Iv.iZp, Iv.zipW, bl, n1, n2, lenOf, lenL]
/-! ### the text of a ring -/
def D : Str := "-"
theorem D_tl : TL.tl D = 45 :: [] := by decide +kernel
theorem D_k : D.cps.all (· < 256) = true := by decide +kernel
theorem D_len : D.length = 1 := by decide +kernel
theorem D_ok : PyData.strOk D = true := by decide +kernel
def nums (a b c d : Int) : List Str := [num a, num b, num c, num d]
def RT (a b c d : Int) : Str := Txt.join D (nums a b c d)
theorem ringtext_ok {a b c d : Int} (h : IsR a b c d) (S : Store) : F_ring_text [t4 a b c d] S = .ok (.str (RT a b c d)) S := by
  obtain ⟨h1, h2, h3, h4, h5, h6, h7, h8, _⟩ := h
  obtain ⟨a1, a2, a3, _⟩ := num_f a (in_rng h1 h2)
  obtain ⟨b1, b2, b3, _⟩ := num_f b (in_rng h3 h4)
  obtain ⟨c1, c2, c3, _⟩ := num_f c (in_rng h5 h6)
  obtain ⟨d1, d2, d3, _⟩ := num_f d (in_rng h7 h8)
  have jn : wJoin D (.lst [.str (num a), .str (num b), .str (num c), .str (num d)]) S = .ok (.str (RT a b c d)) S := by
    have so : strsOf [.str (num a), .str (num b), .str (num c), .str (num d)] = some (nums a b c d) := rfl
    have lo : Iv.listOf (.lst [.str (num a), .str (num b), .str (num c), .str (num d)]) S = some [.str (num a), .str (num b), .str (num c), .str (num d)] := rfl
    simp only [wJoin, lo, so]
    rw [if_pos (by simp only [nums, List.map_cons, List.map_nil, List.sum_cons, List.sum_nil, List.length_cons, List.length_nil, D_len]; omega)]
    rfl
  have bs : ∀ i : Int, i.natAbs.log2 < 1920 → bStr [.int i] S = .ok (.str (num i)) S := fun i hi => by
    show (if i.natAbs.log2 < 1920 then Res.ok (W.str (num i)) S else .bad) = _
    rw [if_pos hi]
  have eD : ("-" : Str) = D := rfl
  simp [F_ring_text, b_ring_text, Iv.eVar, Iv.eC, Iv.eOp, Iv.eUn, Iv.aNil, Iv.aCons, Iv.eCall, Iv.eTup, Iv.eLst, Iv.eNew, Iv.eAnd, Iv.eOr, Iv.wNot, Iv.bVal, Iv.bAnd, Iv.bOr, Iv.bNot, Iv.eIf, Iv.eChain, Iv.mkTup, Iv.mkLst, Iv.mkNew, Iv.wAdd, Iv.wSub, Iv.wMul, Iv.wFdiv, Iv.wMod, Iv.wPow, Iv.wNeg, Iv.wEq, Iv.wNe, Iv.wLt, Iv.wLe, Iv.wGt, Iv.wGe, Iv.wIs, Iv.wIsNot, Iv.isFlat, Iv.inW, Iv.wIn, Iv.wNotIn, Iv.wIx, Iv.dat, Iv.datL, Iv.datS, Iv.listOf, Iv.seqOf, Iv.stillOf, Iv.oNo, Iv.oSome, Iv.cutW, Iv.wSl, Iv.eSl, Iv.gNm, Iv.gsNil, Iv.gsCons, Iv.gTu, Iv.setAt, Iv.gIx, Iv.sNext, Iv.sSeq, Iv.sIf, Iv.sRet, Iv.sEx, Iv.sAsg, Iv.sRaise, Iv.sBreak, Iv.sCont, Iv.iSeq, Iv.iRg, Iv.iRg2, Iv.forF, Iv.sFor, Iv.gUl, Iv.sPr, Iv.sPr3, Iv.wipeE, Iv.bYes, Iv.lcF, Iv.eLc, Iv.okW, Iv.okWs, Iv.okO, Iv.frzW, Iv.frzWs, Iv.fin, Iv.finX, Iv.finN, Iv.start0, Iv.runF, Iv.runN, Iv.eFn, Iv.bSum, Iv.bSorted, Iv.bLen, Iv.bAbs, Iv.bTuple, Iv.bList, Iv.bListN, Iv.blsOf, Iv.bAll, Iv.bAny, Iv.bInt, Iv.bIsi, Iv.isi, Iv.wRev, Iv.eLm, Iv.mAppend, Iv.mPop, Iv.mPopAt, Iv.lc2F, Iv.eLc2, Iv.Res.bind, Iv.rangeW, Iv.wAddN, Iv.shut_eq, Iv.iZp, Iv.zipW, eSm, bs, a3, b3, c3, d3, eD, jn]
theorem RT_split {a b c d : Int} (h : IsR a b c d) : Txt.split (RT a b c d) D = nums a b c d := by
  obtain ⟨h1, h2, h3, h4, h5, h6, h7, h8, _⟩ := h
  refine TL.split_join D_tl D_k (by simp [nums]) ?_
  simp only [nums, List.forall_mem_cons, List.not_mem_nil, false_imp_iff, implies_true, and_true]
  exact ⟨(num_f a (in_rng h1 h2)).2.2.2.2.2, (num_f b (in_rng h3 h4)).2.2.2.2.2, (num_f c (in_rng h5 h6)).2.2.2.2.2, (num_f d (in_rng h7 h8)).2.2.2.2.2⟩
theorem st_ok (a b : Str) : PyData.strOk (a ++ b) = (PyData.strOk a && PyData.strOk b) := by
  show (a.cps ++ b.cps).all _ = _
  rw [Array.all_append]
  rfl
theorem st_len (a b : Str) : (a ++ b).length = a.length + b.length := by
  show (a.cps ++ b.cps).size = a.cps.size + b.cps.size
  rw [Array.size_append]
theorem RT_eq (a b c d : Int) : RT a b c d = num a ++ D ++ (num b ++ D ++ (num c ++ D ++ num d)) := by
  unfold RT nums
  rw [TL.join_eq]
  rfl
theorem RT_ok {a b c d : Int} (h : IsR a b c d) : PyData.strOk (RT a b c d) = true ∧ (RT a b c d).length ≤ 11 := by
  obtain ⟨h1, h2, h3, h4, h5, h6, h7, h8, _⟩ := h
  obtain ⟨a1, a2, _⟩ := num_f a (in_rng h1 h2)
  obtain ⟨b1, b2, _⟩ := num_f b (in_rng h3 h4)
  obtain ⟨c1, c2, _⟩ := num_f c (in_rng h5 h6)
  obtain ⟨d1, d2, _⟩ := num_f d (in_rng h7 h8)
  rw [RT_eq]
  simp only [st_ok, st_len, a2, b2, c2, d2, D_ok, D_len, Bool.and_self, true_and]
  omega
/-! ### a text that is read -/
def prL : List Int → Option (Int × Int × Int × Int)
  | [a, b, c, d] => if 0 < a ∧ 0 < b ∧ 0 < c ∧ 0 < d ∧ cl4 a b c d = true then some (a, b, c, d) else none
  | _ => none
def pr (t : Str) : Option (Int × Int × Int × Int) := prL ((Txt.split t D).map numOf)
theorem numOf_pos {s : Str} (h : 0 < numOf s) : ∃ i, 1 ≤ i ∧ i ≤ 50 ∧ s = num i ∧ numOf s = i := by
  have key : ∀ l : List Int, 0 < ((l.map fun i => (num i, i)).lookup s).getD 0 → ∃ i, i ∈ l ∧ s = num i := by
    intro l
    induction l with
    | nil => intro z; simp at z
    | cons i r ih =>
      intro z
      simp only [List.map_cons, List.lookup_cons] at z
      by_cases q : s = num i
      · exact ⟨i, List.mem_cons_self, q⟩
      · have b : (s == num i) = false := by simpa using q
        rw [b] at z
        obtain ⟨j, h1, h2⟩ := ih z
        exact ⟨j, List.mem_cons_of_mem _ h1, h2⟩
  obtain ⟨i, hi, rfl⟩ := key _ h
  have := (rng_mem 50 1 i).mp hi
  exact ⟨i, by omega, by omega, rfl, (num_f i hi).2.2.2.2.1⟩
theorem isr_len {l : List Int} (h : l.length ≠ 4) (S : Store) : F_is_ring [.tup (l.map .int)] S = .ok (.bl false) S := by
  have bl : bLen [.tup (l.map .int)] S = .ok (.int (l.length : Int)) S := by simp [bLen, seqOf]
  have w : wNe (.int (l.length : Int)) (.int 4) S = .ok (.bl true) S := by
    have : ¬ (l.length : Int) = 4 := by omega
    simp [wNe, datS, dat, shaped_i, PyData.eqv, this]
  simp [F_is_ring, b_is_ring, Iv.eVar, Iv.eC, Iv.eOp, Iv.eUn, Iv.aNil, Iv.aCons, Iv.eCall, Iv.eTup, Iv.eLst, Iv.eNew, Iv.eAnd, Iv.eOr, Iv.wNot, Iv.bVal, Iv.bAnd, Iv.bOr, Iv.bNot, Iv.eIf, Iv.eChain, Iv.mkTup, Iv.mkLst, Iv.mkNew, Iv.wAdd, Iv.wSub, Iv.wMul, Iv.wFdiv, Iv.wMod, Iv.wPow, Iv.wNeg, Iv.wEq, Iv.wLt, Iv.wLe, Iv.wGt, Iv.wGe, Iv.wIs, Iv.wIsNot, Iv.isFlat, Iv.inW, Iv.wIn, Iv.wNotIn, Iv.wIx, Iv.dat, Iv.datL, Iv.datS, Iv.listOf, Iv.seqOf, Iv.stillOf, Iv.oNo, Iv.oSome, Iv.cutW, Iv.wSl, Iv.eSl, Iv.gNm, Iv.gsNil, Iv.gsCons, Iv.gTu, Iv.setAt, Iv.gIx, Iv.sNext, Iv.sSeq, Iv.sIf, Iv.sRet, Iv.sEx, Iv.sAsg, Iv.sRaise, Iv.sBreak, Iv.sCont, Iv.iSeq, Iv.iRg, Iv.iRg2, Iv.forF, Iv.sFor, Iv.gUl, Iv.sPr, Iv.sPr3, Iv.wipeE, Iv.bYes, Iv.lcF, Iv.eLc, Iv.okW, Iv.okWs, Iv.okO, Iv.frzW, Iv.frzWs, Iv.fin, Iv.finX, Iv.finN, Iv.start0, Iv.runF, Iv.runN, Iv.eFn, Iv.bSum, Iv.bSorted, Iv.bAbs, Iv.bTuple, Iv.bList, Iv.bListN, Iv.blsOf, Iv.bAll, Iv.bAny, Iv.bInt, Iv.bIsi, Iv.isi, Iv.wRev, Iv.eLm, Iv.mAppend, Iv.mPop, Iv.mPopAt, Iv.lc2F, Iv.eLc2, Iv.Res.bind, Iv.rangeW, Iv.wAddN, Iv.shut_eq, Iv.iZp, Iv.zipW, bl, w]
theorem lc_len {d0 : En} {S : Store} (h0 : 2 < d0.length) : ∀ ws : List Str, (∀ w ∈ ws, w.length ≤ 100000) → lcF (gNm 2) bYes (eFn 1 F_length_of (aCons (eVar 2) aNil)) d0 (ws.map .str) S = .ok ((ws.map lenOf).map .int) S
  | [], _ => rfl
  | w :: r, h => by
    have ih := lc_len (S := S) h0 r fun x hx => h x (List.mem_cons_of_mem _ hx)
    have lw := length_ok w (h w List.mem_cons_self) S
    rw [List.map_cons, lcF]
    simp only [gNm, bYes, Res.bind, if_true, eFn, aCons, aNil, eVar, List.getElem?_set_self h0, List.length_cons, List.length_nil, lw, ih]
    rfl
theorem sum_le {l : List Str} {w : Str} (h : w ∈ l) : w.length ≤ (l.map (·.length)).sum := by
  induction l with
  | nil => cases h
  | cons x r ih =>
    rw [List.map_cons, List.sum_cons]
    rcases List.mem_cons.mp h with rfl | h
    · omega
    · have := ih h
      omega
theorem parse_ok {t : Str} (ht : t.length ≤ 90000) (hs : PyData.strOk t = true) (S : Store) : F_parse_ring [.str t] S = match pr t with
    | some (a, b, c, d) => .ok (t4 a b c d) S
    | none => .exc "InvalidText" S := by
  have wt := PyProof.Rows.split_weight t D (by rw [D_len]; decide)
  have lw : ∀ w ∈ Txt.split t D, w.length ≤ 100000 := fun w hw => by
    have := sum_le hw
    omega
  have sp : wSplit t (.str "-") S = .ok (.lst ((Txt.split t D).map .str)) S := by
    show (if (D.length == 0) = false ∧ t.length ≤ 90000 then Res.ok (W.lst ((Txt.split t D).map .str)) S else .bad) = _
    rw [if_pos ⟨by rw [D_len]; rfl, ht⟩]
  have lc := lc_len (d0 := [some (.str t), none, none]) (S := S) (by simp) (Txt.split t D) lw
  have sl : (Txt.split t D).length ≤ 100000 := by omega
  have cmp : eLc [2] (iSeq (eSm wSplit (eVar 0) (eC (.str "-")))) (gNm 2) bYes (eFn 1 F_length_of (aCons (eVar 2) aNil)) [some (.str t), none, none] S = .ok (.lst (((Txt.split t D).map lenOf).map .int)) S := by
    have so : stillOf (.lst ((Txt.split t D).map W.str)) = some ((Txt.split t D).map W.str) := rfl
    have sl' : ((Txt.split t D).map W.str).length ≤ 100000 := by rw [List.length_map]; exact sl
    generalize (Txt.split t D).map W.str = WL at *
    simp [Iv.eVar, Iv.eC, Iv.eOp, Iv.eUn, Iv.aNil, Iv.aCons, Iv.eCall, Iv.eTup, Iv.eLst, Iv.eNew, Iv.eAnd, Iv.eOr, Iv.wNot, Iv.bVal, Iv.bAnd, Iv.bOr, Iv.bNot, Iv.eIf, Iv.eChain, Iv.mkTup, Iv.mkLst, Iv.mkNew, Iv.wAdd, Iv.wSub, Iv.wMul, Iv.wFdiv, Iv.wMod, Iv.wPow, Iv.wNeg, Iv.wEq, Iv.wNe, Iv.wLt, Iv.wLe, Iv.wGt, Iv.wGe, Iv.wIs, Iv.wIsNot, Iv.isFlat, Iv.inW, Iv.wIn, Iv.wNotIn, Iv.wIx, Iv.dat, Iv.datL, Iv.datS, Iv.listOf, Iv.seqOf, Iv.oNo, Iv.oSome, Iv.cutW, Iv.wSl, Iv.eSl, Iv.gNm, Iv.gsNil, Iv.gsCons, Iv.gTu, Iv.setAt, Iv.gIx, Iv.sNext, Iv.sSeq, Iv.sIf, Iv.sRet, Iv.sEx, Iv.sAsg, Iv.sRaise, Iv.sBreak, Iv.sCont, Iv.iSeq, Iv.iRg, Iv.iRg2, Iv.forF, Iv.sFor, Iv.gUl, Iv.sPr, Iv.sPr3, Iv.wipeE, Iv.bYes, Iv.eLc, Iv.okW, Iv.okWs, Iv.okO, Iv.frzW, Iv.frzWs, Iv.fin, Iv.finX, Iv.finN, Iv.start0, Iv.runF, Iv.runN, Iv.eFn, Iv.bSum, Iv.bSorted, Iv.bLen, Iv.bAbs, Iv.bTuple, Iv.bList, Iv.bListN, Iv.blsOf, Iv.bAll, Iv.bAny, Iv.bInt, Iv.bIsi, Iv.isi, Iv.wRev, Iv.eLm, Iv.mAppend, Iv.mPop, Iv.mPopAt, Iv.lc2F, Iv.eLc2, Iv.Res.bind, Iv.rangeW, Iv.wAddN, Iv.shut_eq, Iv.iZp, Iv.zipW, eSm, sp, so, lc, sl']
  have p2 : b_parse_ring [some (.str t), none, none] S = b_parse_ring_1 [some (.str t), some (.tup (((Txt.split t D).map lenOf).map .int)), none] S := by
    generalize ((Txt.split t D).map lenOf).map W.int = LL at *
    simp [b_parse_ring, b_parse_ring_2, Iv.eVar, Iv.eC, Iv.eOp, Iv.eUn, Iv.aNil, Iv.aCons, Iv.eCall, Iv.eTup, Iv.eLst, Iv.eNew, Iv.eAnd, Iv.eOr, Iv.wNot, Iv.bVal, Iv.bAnd, Iv.bOr, Iv.bNot, Iv.eIf, Iv.eChain, Iv.mkTup, Iv.mkLst, Iv.mkNew, Iv.wAdd, Iv.wSub, Iv.wMul, Iv.wFdiv, Iv.wMod, Iv.wPow, Iv.wNeg, Iv.wEq, Iv.wNe, Iv.wLt, Iv.wLe, Iv.wGt, Iv.wGe, Iv.wIs, Iv.wIsNot, Iv.isFlat, Iv.inW, Iv.wIn, Iv.wNotIn, Iv.wIx, Iv.dat, Iv.datL, Iv.datS, Iv.listOf, Iv.seqOf, Iv.stillOf, Iv.oNo, Iv.oSome, Iv.cutW, Iv.wSl, Iv.eSl, Iv.gNm, Iv.gsNil, Iv.gsCons, Iv.gTu, Iv.setAt, Iv.gIx, Iv.sNext, Iv.sSeq, Iv.sIf, Iv.sRet, Iv.sEx, Iv.sAsg, Iv.sRaise, Iv.sBreak, Iv.sCont, Iv.iSeq, Iv.iRg, Iv.iRg2, Iv.forF, Iv.sFor, Iv.gUl, Iv.sPr, Iv.sPr3, Iv.wipeE, Iv.bYes, Iv.lcF, Iv.okW, Iv.okWs, Iv.okO, Iv.frzW, Iv.frzWs, Iv.fin, Iv.finX, Iv.finN, Iv.start0, Iv.runF, Iv.runN, Iv.eFn, Iv.bSum, Iv.bSorted, Iv.bLen, Iv.bAbs, Iv.bTuple, Iv.bList, Iv.bListN, Iv.blsOf, Iv.bAll, Iv.bAny, Iv.bInt, Iv.bIsi, Iv.isi, Iv.wRev, Iv.eLm, Iv.mAppend, Iv.mPop, Iv.mPopAt, Iv.lc2F, Iv.eLc2, Iv.Res.bind, Iv.rangeW, Iv.wAddN, Iv.shut_eq, Iv.iZp, Iv.zipW, cmp]
  have run : F_parse_ring [.str t] S = (match b_parse_ring_1 [some (.str t), some (.tup (((Txt.split t D).map lenOf).map .int)), none] S with
    | .ok (.rt w) S' => fin S.length w S'
    | .ok (.nx _) S' => fin S.length .non S'
    | .ok _ _ => .bad
    | .exc c S' => finX S.length c S'
    | .bad => .bad) := by
    rw [← p2]
    rfl
  have fx : finX S.length "InvalidText" S = .exc "InvalidText" S := by unfold finX; rw [if_pos rfl]
  have fo : ∀ w, fin S.length w S = .ok w S := fun w => by unfold fin; rw [if_pos rfl]
  have tx : ∀ u : Str, PyData.strOk u = true → wNe (.str u) (.str t) S = .ok (.bl (!decide (u = t))) S := fun u hu => by
    have h1 : SeqAt.shaped (.str u) = true := by unfold SeqAt.shaped; simp [PyData.canLay0, hu, PyData.depth]
    have h2 : SeqAt.shaped (.str t) = true := by unfold SeqAt.shaped; simp [PyData.canLay0, hs, PyData.depth]
    simp [wNe, datS, dat, h1, h2, PyData.eqv]
    rw [Bool.eq_iff_iff]
    simp
  have bad : ∀ l : List Int, F_is_ring [.tup (l.map .int)] S = .ok (.bl false) S → b_parse_ring_1 [some (.str t), some (.tup (l.map .int)), none] S = .exc "InvalidText" S := fun l hl => by
    generalize l.map W.int = LL at *
    simp [b_parse_ring_1, Iv.eVar, Iv.eC, Iv.eOp, Iv.eUn, Iv.aNil, Iv.aCons, Iv.eCall, Iv.eTup, Iv.eLst, Iv.eNew, Iv.eAnd, Iv.eOr, Iv.wNot, Iv.bVal, Iv.bAnd, Iv.bOr, Iv.bNot, Iv.eIf, Iv.eChain, Iv.mkTup, Iv.mkLst, Iv.mkNew, Iv.wAdd, Iv.wSub, Iv.wMul, Iv.wFdiv, Iv.wMod, Iv.wPow, Iv.wNeg, Iv.wEq, Iv.wNe, Iv.wLt, Iv.wLe, Iv.wGt, Iv.wGe, Iv.wIs, Iv.wIsNot, Iv.isFlat, Iv.inW, Iv.wIn, Iv.wNotIn, Iv.wIx, Iv.dat, Iv.datL, Iv.datS, Iv.listOf, Iv.seqOf, Iv.stillOf, Iv.oNo, Iv.oSome, Iv.cutW, Iv.wSl, Iv.eSl, Iv.gNm, Iv.gsNil, Iv.gsCons, Iv.gTu, Iv.setAt, Iv.gIx, Iv.sNext, Iv.sSeq, Iv.sIf, Iv.sRet, Iv.sEx, Iv.sAsg, Iv.sRaise, Iv.sBreak, Iv.sCont, Iv.iSeq, Iv.iRg, Iv.iRg2, Iv.forF, Iv.sFor, Iv.gUl, Iv.sPr, Iv.sPr3, Iv.wipeE, Iv.bYes, Iv.lcF, Iv.eLc, Iv.okW, Iv.okWs, Iv.okO, Iv.frzW, Iv.frzWs, Iv.fin, Iv.finX, Iv.finN, Iv.start0, Iv.runF, Iv.runN, Iv.eFn, Iv.bSum, Iv.bSorted, Iv.bLen, Iv.bAbs, Iv.bTuple, Iv.bList, Iv.bListN, Iv.blsOf, Iv.bAll, Iv.bAny, Iv.bInt, Iv.bIsi, Iv.isi, Iv.wRev, Iv.eLm, Iv.mAppend, Iv.mPop, Iv.mPopAt, Iv.lc2F, Iv.eLc2, Iv.Res.bind, Iv.rangeW, Iv.wAddN, Iv.shut_eq, Iv.iZp, Iv.zipW, hl]
  have four : ∀ {a b c d : Int}, IsR a b c d → b_parse_ring_1 [some (.str t), some (t4 a b c d), none] S = (if RT a b c d = t then .ok (.rt (t4 a b c d)) S else .exc "InvalidText" S) := fun {a b c d} h => by
    have i1 := isring_ok h S
    have i2 := ringtext_ok h S
    have i3 := tx _ (RT_ok h).1
    generalize t4 a b c d = R at *
    by_cases q : RT a b c d = t
    · rw [if_pos q]
      rw [decide_eq_true q] at i3
      generalize RT a b c d = T at *
      simp [b_parse_ring_1, Iv.eVar, Iv.eC, Iv.eOp, Iv.eUn, Iv.aNil, Iv.aCons, Iv.eCall, Iv.eTup, Iv.eLst, Iv.eNew, Iv.eAnd, Iv.eOr, Iv.wNot, Iv.bVal, Iv.bAnd, Iv.bOr, Iv.bNot, Iv.eIf, Iv.eChain, Iv.mkTup, Iv.mkLst, Iv.mkNew, Iv.wAdd, Iv.wSub, Iv.wMul, Iv.wFdiv, Iv.wMod, Iv.wPow, Iv.wNeg, Iv.wEq, Iv.wLt, Iv.wLe, Iv.wGt, Iv.wGe, Iv.wIs, Iv.wIsNot, Iv.isFlat, Iv.inW, Iv.wIn, Iv.wNotIn, Iv.wIx, Iv.dat, Iv.datL, Iv.datS, Iv.listOf, Iv.seqOf, Iv.stillOf, Iv.oNo, Iv.oSome, Iv.cutW, Iv.wSl, Iv.eSl, Iv.gNm, Iv.gsNil, Iv.gsCons, Iv.gTu, Iv.setAt, Iv.gIx, Iv.sNext, Iv.sSeq, Iv.sIf, Iv.sRet, Iv.sEx, Iv.sAsg, Iv.sRaise, Iv.sBreak, Iv.sCont, Iv.iSeq, Iv.iRg, Iv.iRg2, Iv.forF, Iv.sFor, Iv.gUl, Iv.sPr, Iv.sPr3, Iv.wipeE, Iv.bYes, Iv.lcF, Iv.eLc, Iv.okW, Iv.okWs, Iv.okO, Iv.frzW, Iv.frzWs, Iv.fin, Iv.finX, Iv.finN, Iv.start0, Iv.runF, Iv.runN, Iv.eFn, Iv.bSum, Iv.bSorted, Iv.bLen, Iv.bAbs, Iv.bTuple, Iv.bList, Iv.bListN, Iv.blsOf, Iv.bAll, Iv.bAny, Iv.bInt, Iv.bIsi, Iv.isi, Iv.wRev, Iv.eLm, Iv.mAppend, Iv.mPop, Iv.mPopAt, Iv.lc2F, Iv.eLc2, Iv.Res.bind, Iv.rangeW, Iv.wAddN, Iv.shut_eq, Iv.iZp, Iv.zipW, i1, i2, i3]
    · rw [if_neg q]
      rw [decide_eq_false q] at i3
      generalize RT a b c d = T at *
      simp [b_parse_ring_1, Iv.eVar, Iv.eC, Iv.eOp, Iv.eUn, Iv.aNil, Iv.aCons, Iv.eCall, Iv.eTup, Iv.eLst, Iv.eNew, Iv.eAnd, Iv.eOr, Iv.wNot, Iv.bVal, Iv.bAnd, Iv.bOr, Iv.bNot, Iv.eIf, Iv.eChain, Iv.mkTup, Iv.mkLst, Iv.mkNew, Iv.wAdd, Iv.wSub, Iv.wMul, Iv.wFdiv, Iv.wMod, Iv.wPow, Iv.wNeg, Iv.wEq, Iv.wLt, Iv.wLe, Iv.wGt, Iv.wGe, Iv.wIs, Iv.wIsNot, Iv.isFlat, Iv.inW, Iv.wIn, Iv.wNotIn, Iv.wIx, Iv.dat, Iv.datL, Iv.datS, Iv.listOf, Iv.seqOf, Iv.stillOf, Iv.oNo, Iv.oSome, Iv.cutW, Iv.wSl, Iv.eSl, Iv.gNm, Iv.gsNil, Iv.gsCons, Iv.gTu, Iv.setAt, Iv.gIx, Iv.sNext, Iv.sSeq, Iv.sIf, Iv.sRet, Iv.sEx, Iv.sAsg, Iv.sRaise, Iv.sBreak, Iv.sCont, Iv.iSeq, Iv.iRg, Iv.iRg2, Iv.forF, Iv.sFor, Iv.gUl, Iv.sPr, Iv.sPr3, Iv.wipeE, Iv.bYes, Iv.lcF, Iv.eLc, Iv.okW, Iv.okWs, Iv.okO, Iv.frzW, Iv.frzWs, Iv.fin, Iv.finX, Iv.finN, Iv.start0, Iv.runF, Iv.runN, Iv.eFn, Iv.bSum, Iv.bSorted, Iv.bLen, Iv.bAbs, Iv.bTuple, Iv.bList, Iv.bListN, Iv.blsOf, Iv.bAll, Iv.bAny, Iv.bInt, Iv.bIsi, Iv.isi, Iv.wRev, Iv.eLm, Iv.mAppend, Iv.mPop, Iv.mPopAt, Iv.lc2F, Iv.eLc2, Iv.Res.bind, Iv.rangeW, Iv.wAddN, Iv.shut_eq, Iv.iZp, Iv.zipW, i1, i2, i3]
  cases hp : pr t with
  | some p =>
    obtain ⟨a, b, c, d⟩ := p
    -- each word is a number's text
    have key : IsR a b c d ∧ Txt.split t D = nums a b c d := by
      unfold pr prL at hp
      split at hp
      · rename_i x1 x2 x3 x4 e
        split at hp
        · rename_i g
          obtain ⟨g1, g2, g3, g4, g5⟩ := g
          cases hp
          match hw : Txt.split t D, e with
          | [w1, w2, w3, w4], e =>
            simp only [List.map_cons, List.map_nil, List.cons.injEq, and_true] at e
            obtain ⟨e1, e2, e3, e4⟩ := e
            obtain ⟨i1, a1, a2, r1, q1⟩ := numOf_pos (s := w1) (by omega)
            obtain ⟨i2, b1, b2, r2, q2⟩ := numOf_pos (s := w2) (by omega)
            obtain ⟨i3, c1, c2, r3, q3⟩ := numOf_pos (s := w3) (by omega)
            obtain ⟨i4, d1, d2, r4, q4⟩ := numOf_pos (s := w4) (by omega)
            have f1 : a = i1 := by omega
            have f2 : b = i2 := by omega
            have f3 : c = i3 := by omega
            have f4 : d = i4 := by omega
            subst f1 f2 f3 f4 r1 r2 r3 r4
            have g5 := of_decide_eq_true g5
            exact ⟨⟨a1, a2, b1, b2, c1, c2, d1, d2, g5.1, g5.2.1, g5.2.2.1, g5.2.2.2⟩, rfl⟩
          | [], e => simp at e
          | [_], e => simp at e
          | [_, _], e => simp at e
          | [_, _, _], e => simp at e
          | _ :: _ :: _ :: _ :: _ :: _, e => simp at e
        · cases hp
      · cases hp
    obtain ⟨hr, hsp⟩ := key
    have ll : ((Txt.split t D).map lenOf).map W.int = [.int a, .int b, .int c, .int d] := by
      obtain ⟨h1, h2, h3, h4, h5, h6, h7, h8, _⟩ := hr
      rw [hsp]
      simp only [nums, List.map_cons, List.map_nil, (num_f a (in_rng h1 h2)).2.2.2.1, (num_f b (in_rng h3 h4)).2.2.2.1, (num_f c (in_rng h5 h6)).2.2.2.1, (num_f d (in_rng h7 h8)).2.2.2.1]
    have te : RT a b c d = t := by
      unfold RT
      rw [← hsp, TL.join_eq]
      exact StrLaws.join_split t D
    rw [run, ll, show (W.tup [.int a, .int b, .int c, .int d]) = t4 a b c d from rfl, four hr, if_pos te]
    exact fo _
  | none =>
    rw [run]
    have z : b_parse_ring_1 [some (.str t), some (.tup (((Txt.split t D).map lenOf).map .int)), none] S = .exc "InvalidText" S := by
      by_cases h4 : ((Txt.split t D).map lenOf).length = 4
      · match hw : (Txt.split t D).map lenOf, h4 with
        | [a, b, c, d], _ =>
          have is := isring_spec a b c d S
          cases hb : (inR a && inR b && inR c && inR d && cl4 a b c d) with
          | false =>
            rw [hb] at is
            exact bad [a, b, c, d] is
          | true =>
            simp only [Bool.and_eq_true, inR, decide_eq_true_eq] at hb
            obtain ⟨⟨⟨⟨⟨x1, x2⟩, x3, x4⟩, x5, x6⟩, x7, x8⟩, hc⟩ := hb
            have hc' := of_decide_eq_true hc
            have hr : IsR a b c d := ⟨x1, x2, x3, x4, x5, x6, x7, x8, hc'.1, hc'.2.1, hc'.2.2.1, hc'.2.2.2⟩
            rw [show (W.tup ([a, b, c, d].map .int)) = t4 a b c d from rfl, four hr, if_neg]
            intro te
            have sp2 := RT_split hr
            rw [te] at sp2
            unfold pr at hp
            rw [sp2] at hp
            simp only [nums, List.map_cons, List.map_nil, (num_f a (in_rng x1 x2)).2.2.2.2.1, (num_f b (in_rng x3 x4)).2.2.2.2.1, (num_f c (in_rng x5 x6)).2.2.2.2.1, (num_f d (in_rng x7 x8)).2.2.2.2.1, prL] at hp
            rw [if_pos ⟨by omega, by omega, by omega, by omega, hc⟩] at hp
            cases hp
      · exact bad _ (isr_len h4 S)
    rw [z]
    exact fx
end G
end
section
set_option maxHeartbeats 4000000
set_option maxRecDepth 100000
namespace G
open PySem L2 Iv
theorem rs_sh (i : Int) : SeqAt.shaped (.tuple [.str "raised", .int i]) = true := by kernel_rfl
theorem rt_sh (a b c d : Int) : SeqAt.shaped (.tuple [.str "returned", .tuple [.int a, .int b, .int c, .int d]]) = true := by kernel_rfl
def OC (t : Str) : W := match pr t with
  | some (a, b, c, d) => .tup [.str "returned", t4 a b c d]
  | none => .tup [.str "raised", .int (exI "InvalidText")]
theorem oc_ne (t : Str) (S : Store) : wNe (OC t) (OC t) S = .ok (.bl false) S := by
  unfold OC
  split
  · rename_i a b c d _
    simp [wNe, datS, dat, datL, rt_sh, PyData.eqv, PyData.eqvAll]
  · simp [wNe, datS, dat, datL, rs_sh, PyData.eqv, PyData.eqvAll]
theorem mem_txt : ("InvalidText" : Str) ∈ errs := by decide
section
variable {S : Store} {x : W}
theorem call72 {r : W} (h : F_parse_ring [x] S = .ok r S) : F_law_call_k72 [.int 0, x] S = .ok r S := by
  simp [F_law_call_k72, b_law_call_k72, Iv.eVar, Iv.eC, Iv.eOp, Iv.eUn, Iv.aNil, Iv.aCons, Iv.eCall, Iv.eTup, Iv.eLst, Iv.eNew, Iv.eAnd, Iv.eOr, Iv.wNot, Iv.bVal, Iv.bAnd, Iv.bOr, Iv.bNot, Iv.eIf, Iv.eChain, Iv.mkTup, Iv.mkLst, Iv.mkNew, Iv.wAdd, Iv.wSub, Iv.wMul, Iv.wFdiv, Iv.wMod, Iv.wPow, Iv.wNeg, Iv.wEq, Iv.wNe, Iv.wLt, Iv.wLe, Iv.wGt, Iv.wGe, Iv.wIs, Iv.wIsNot, Iv.isFlat, Iv.inW, Iv.wIn, Iv.wNotIn, Iv.wIx, Iv.dat, Iv.datL, Iv.datS, Iv.listOf, Iv.seqOf, Iv.stillOf, Iv.oNo, Iv.oSome, Iv.cutW, Iv.wSl, Iv.eSl, Iv.gNm, Iv.gsNil, Iv.gsCons, Iv.gTu, Iv.setAt, Iv.gIx, Iv.sNext, Iv.sSeq, Iv.sIf, Iv.sRet, Iv.sEx, Iv.sAsg, Iv.sRaise, Iv.sBreak, Iv.sCont, Iv.iSeq, Iv.iRg, Iv.iRg2, Iv.forF, Iv.sFor, Iv.gUl, Iv.sPr, Iv.sPr3, Iv.wipeE, Iv.bYes, Iv.lcF, Iv.eLc, Iv.okW, Iv.okWs, Iv.okO, Iv.frzW, Iv.frzWs, Iv.fin, Iv.finX, Iv.finN, Iv.start0, Iv.runF, Iv.runN, Iv.eFn, Iv.bSum, Iv.bSorted, Iv.bLen, Iv.bAbs, Iv.bTuple, Iv.bList, Iv.bListN, Iv.blsOf, Iv.bAll, Iv.bAny, Iv.bInt, Iv.bIsi, Iv.isi, Iv.wRev, Iv.eLm, Iv.mAppend, Iv.mPop, Iv.mPopAt, Iv.lc2F, Iv.eLc2, Iv.Res.bind, Iv.rangeW, Iv.wAddN, Iv.shut_eq, Iv.iZp, Iv.zipW, h]
theorem call72x {c : Str} (h : F_parse_ring [x] S = .exc c S) : F_law_call_k72 [.int 0, x] S = .exc c S := by
  simp [F_law_call_k72, b_law_call_k72, Iv.eVar, Iv.eC, Iv.eOp, Iv.eUn, Iv.aNil, Iv.aCons, Iv.eCall, Iv.eTup, Iv.eLst, Iv.eNew, Iv.eAnd, Iv.eOr, Iv.wNot, Iv.bVal, Iv.bAnd, Iv.bOr, Iv.bNot, Iv.eIf, Iv.eChain, Iv.mkTup, Iv.mkLst, Iv.mkNew, Iv.wAdd, Iv.wSub, Iv.wMul, Iv.wFdiv, Iv.wMod, Iv.wPow, Iv.wNeg, Iv.wEq, Iv.wNe, Iv.wLt, Iv.wLe, Iv.wGt, Iv.wGe, Iv.wIs, Iv.wIsNot, Iv.isFlat, Iv.inW, Iv.wIn, Iv.wNotIn, Iv.wIx, Iv.dat, Iv.datL, Iv.datS, Iv.listOf, Iv.seqOf, Iv.stillOf, Iv.oNo, Iv.oSome, Iv.cutW, Iv.wSl, Iv.eSl, Iv.gNm, Iv.gsNil, Iv.gsCons, Iv.gTu, Iv.setAt, Iv.gIx, Iv.sNext, Iv.sSeq, Iv.sIf, Iv.sRet, Iv.sEx, Iv.sAsg, Iv.sRaise, Iv.sBreak, Iv.sCont, Iv.iSeq, Iv.iRg, Iv.iRg2, Iv.forF, Iv.sFor, Iv.gUl, Iv.sPr, Iv.sPr3, Iv.wipeE, Iv.bYes, Iv.lcF, Iv.eLc, Iv.okW, Iv.okWs, Iv.okO, Iv.frzW, Iv.frzWs, Iv.fin, Iv.finX, Iv.finN, Iv.start0, Iv.runF, Iv.runN, Iv.eFn, Iv.bSum, Iv.bSorted, Iv.bLen, Iv.bAbs, Iv.bTuple, Iv.bList, Iv.bListN, Iv.blsOf, Iv.bAll, Iv.bAny, Iv.bInt, Iv.bIsi, Iv.isi, Iv.wRev, Iv.eLm, Iv.mAppend, Iv.mPop, Iv.mPopAt, Iv.lc2F, Iv.eLc2, Iv.Res.bind, Iv.rangeW, Iv.wAddN, Iv.shut_eq, Iv.iZp, Iv.zipW, h]
theorem out72x (hk : S.all (okO S.length) = true) (h : F_parse_ring [x] S = .exc "InvalidText" S) : F_law_outcome_k72 [.int 0, x] S = .ok (.tup [.str "raised", .int (exI "InvalidText")]) S := by
  have cl := call72x h
  have n := name_ok (S := S ++ [.E "InvalidText"]) (k := S.length) (c := "InvalidText") (by simp) mem_txt
  have is : wIs (.mt S.length) .non (S ++ [.E "InvalidText"]) = .ok (.bl false) (S ++ [.E "InvalidText"]) := rfl
  have hc := mem_txt
  simp [F_law_outcome_k72, b_law_outcome_k72, b_law_outcome_k72_1, b_law_outcome_k72_2, b_law_outcome_k72_3, Iv.eVar, Iv.eC, Iv.eOp, Iv.eUn, Iv.aNil, Iv.aCons, Iv.eCall, Iv.eTup, Iv.eLst, Iv.eNew, Iv.eAnd, Iv.eOr, Iv.wNot, Iv.bVal, Iv.bAnd, Iv.bOr, Iv.bNot, Iv.eIf, Iv.eChain, Iv.mkTup, Iv.mkLst, Iv.mkNew, Iv.wAdd, Iv.wSub, Iv.wMul, Iv.wFdiv, Iv.wMod, Iv.wPow, Iv.wNeg, Iv.wEq, Iv.wNe, Iv.wLt, Iv.wLe, Iv.wGt, Iv.wGe, Iv.wIsNot, Iv.isFlat, Iv.inW, Iv.wIn, Iv.wNotIn, Iv.wIx, Iv.dat, Iv.datL, Iv.datS, Iv.listOf, Iv.seqOf, Iv.stillOf, Iv.oNo, Iv.oSome, Iv.cutW, Iv.wSl, Iv.eSl, Iv.gNm, Iv.gsNil, Iv.gsCons, Iv.gTu, Iv.setAt, Iv.gIx, Iv.sNext, Iv.sSeq, Iv.sIf, Iv.sRet, Iv.sEx, Iv.sAsg, Iv.sRaise, Iv.sBreak, Iv.sCont, Iv.iSeq, Iv.iRg, Iv.iRg2, Iv.forF, Iv.sFor, Iv.gUl, Iv.sPr, Iv.sPr3, Iv.wipeE, Iv.bYes, Iv.lcF, Iv.eLc, Iv.okW, Iv.okWs, Iv.frzW, Iv.frzWs, Iv.fin, Iv.finX, Iv.finN, Iv.start0, Iv.runF, Iv.runN, Iv.eFn, Iv.bSum, Iv.bSorted, Iv.bLen, Iv.bAbs, Iv.bTuple, Iv.bList, Iv.bListN, Iv.blsOf, Iv.bAll, Iv.bAny, Iv.bInt, Iv.bIsi, Iv.isi, Iv.wRev, Iv.eLm, Iv.mAppend, Iv.mPop, Iv.mPopAt, Iv.lc2F, Iv.eLc2, Iv.Res.bind, Iv.rangeW, Iv.wAddN, Iv.shut_eq, Iv.iZp, Iv.zipW, sTry, cl, hc, n, is, hk]
theorem out72r {r : W} (h : F_parse_ring [x] S = .ok r S) : F_law_outcome_k72 [.int 0, x] S = .ok (.tup [.str "returned", r]) S := by
  have cl := call72 h
  have is : wIs .non .non S = .ok (.bl true) S := rfl
  simp [F_law_outcome_k72, b_law_outcome_k72, b_law_outcome_k72_1, b_law_outcome_k72_2, b_law_outcome_k72_3, Iv.eVar, Iv.eC, Iv.eOp, Iv.eUn, Iv.aNil, Iv.aCons, Iv.eCall, Iv.eTup, Iv.eLst, Iv.eNew, Iv.eAnd, Iv.eOr, Iv.wNot, Iv.bVal, Iv.bAnd, Iv.bOr, Iv.bNot, Iv.eIf, Iv.eChain, Iv.mkTup, Iv.mkLst, Iv.mkNew, Iv.wAdd, Iv.wSub, Iv.wMul, Iv.wFdiv, Iv.wMod, Iv.wPow, Iv.wNeg, Iv.wEq, Iv.wNe, Iv.wLt, Iv.wLe, Iv.wGt, Iv.wGe, Iv.wIsNot, Iv.isFlat, Iv.inW, Iv.wIn, Iv.wNotIn, Iv.wIx, Iv.dat, Iv.datL, Iv.datS, Iv.listOf, Iv.seqOf, Iv.stillOf, Iv.oNo, Iv.oSome, Iv.cutW, Iv.wSl, Iv.eSl, Iv.gNm, Iv.gsNil, Iv.gsCons, Iv.gTu, Iv.setAt, Iv.gIx, Iv.sNext, Iv.sSeq, Iv.sIf, Iv.sRet, Iv.sEx, Iv.sAsg, Iv.sRaise, Iv.sBreak, Iv.sCont, Iv.iSeq, Iv.iRg, Iv.iRg2, Iv.forF, Iv.sFor, Iv.gUl, Iv.sPr, Iv.sPr3, Iv.wipeE, Iv.bYes, Iv.lcF, Iv.eLc, Iv.okW, Iv.okWs, Iv.okO, Iv.frzW, Iv.frzWs, Iv.fin, Iv.finX, Iv.finN, Iv.start0, Iv.runF, Iv.runN, Iv.eFn, Iv.bSum, Iv.bSorted, Iv.bLen, Iv.bAbs, Iv.bTuple, Iv.bList, Iv.bListN, Iv.blsOf, Iv.bAll, Iv.bAny, Iv.bInt, Iv.bIsi, Iv.isi, Iv.wRev, Iv.eLm, Iv.mAppend, Iv.mPop, Iv.mPopAt, Iv.lc2F, Iv.eLc2, Iv.Res.bind, Iv.rangeW, Iv.wAddN, Iv.shut_eq, Iv.iZp, Iv.zipW, sTry, cl, is]
theorem out_t {t : Str} (ht : t.length ≤ 90000) (hs : PyData.strOk t = true) (hk : S.all (okO S.length) = true) : F_law_outcome_k72 [.int 0, .str t] S = .ok (OC t) S := by
  have p := parse_ok ht hs S
  unfold OC
  cases hp : pr t with
  | none =>
    rw [hp] at p
    exact out72x hk p
  | some q =>
    obtain ⟨a, b, c, d⟩ := q
    rw [hp] at p
    exact out72r p
end
/-! ### what the law finds -/
def numsW : List (Str × W) := (rng 1 50).map fun i => (num i, .int i)
theorem look_num (s : Str) : (numsW.lookup s).getD (.int 0) = .int (numOf s) := by
  unfold numsW numOf numsI
  generalize rng 1 50 = l
  induction l with
  | nil => rfl
  | cons i r ih =>
    simp only [List.map_cons, List.lookup_cons]
    cases s == num i
    · exact ih
    · rfl
section
variable {o : MO} {t : Str} {e0 e1 e2 e3 e5 e6 e7 e9 e10 e11 e12 : Option W}
theorem lc_num {d0 : En} {S : Store} (h0 : d0.length = 16) (h4 : d0[4]? = some (some (.mt 1))) (hS : S[1]? = some (.D numsW)) : ∀ ws : List Str, lcF (gNm 14) bYes (eGet (eVar 4) (eVar 14) (eC (.int 0))) d0 (ws.map .str) S = .ok ((ws.map numOf).map .int) S
  | [] => rfl
  | w :: r => by
    have ih := lc_num h0 h4 hS r
    have g : eGet (eVar 4) (eVar 14) (eC (.int 0)) (d0.set 14 (some (.str w))) S = .ok (.int (numOf w)) S := by
      simp only [eGet, eVar, eC, Res.bind, List.getElem?_set_self (show 14 < d0.length by omega), List.getElem?_set_ne (show (14 : Nat) ≠ 4 by decide), h4, hS]
      rw [look_num]
    rw [List.map_cons, lcF]
    simp only [gNm, bYes, Res.bind, if_true, g, ih]
    rfl
theorem prL_len {l : List Int} (h : l.length ≠ 4) : prL l = none := by
  match l, h with
  | [], _ => rfl
  | [_], _ => rfl
  | [_, _], _ => rfl
  | [_, _, _], _ => rfl
  | [_, _, _, _], h => exact absurd rfl h
  | _ :: _ :: _ :: _ :: _ :: _, _ => rfl
/-- the law's word of a text -/
theorem good72 {S : Store} (ht : t.length ≤ 90000) (hs : PyData.strOk t = true) (hk : S.all (okO S.length) = true) : ∃ x10 x11, b_law_k72_2 [e0, e1, e2, e3, some (.mt 1), e5, e6, e7, some (.str t), some (.tup (((Txt.split t D).map numOf).map .int)), e10, e11, e12, none, none, none] S = .ok (.nx [e0, e1, e2, e3, some (.mt 1), e5, e6, e7, some (.str t), some (.tup (((Txt.split t D).map numOf).map .int)), x10, x11, e12, none, none, none]) S := by
  have ou := out_t ht hs hk
  have rr := raises_ok (n := "text") (c := "InvalidText") (by simp [exN]) S
  have oc := oc_ne t S
  have hpr : pr t = prL ((Txt.split t D).map numOf) := rfl
  generalize (Txt.split t D).map numOf = l at *
  by_cases h4 : l.length = 4
  · match l, h4 with
    | [a, b, c, d], _ =>
      have bl : bLen [.tup [.int a, .int b, .int c, .int d]] S = .ok (.int 4) S := rfl
      have w4 : wEq (.int 4) (.int 4) S = .ok (.bl true) S := rfl
      have bm : bMin [.tup [.int a, .int b, .int c, .int d]] S = .ok (.int (mn4 a b c d)) S := by
        simp only [bMin, seqOf, min4]
      have cs : F_law_closes [.tup [.int a, .int b, .int c, .int d]] S = .ok (.bl (cl4 a b c d)) S := closes_spec a b c d S
      have mm : 0 < mn4 a b c d ↔ (0 < a ∧ 0 < b ∧ 0 < c ∧ 0 < d) := by unfold mn4; omega
      simp only [List.map_cons, List.map_nil] at *
      by_cases q : 0 < mn4 a b c d
      · obtain ⟨q1, q2, q3, q4⟩ := mm.mp q
        cases hc : cl4 a b c d with
        | true =>
          have pe : pr t = some (a, b, c, d) := by
            rw [hpr]
            simp only [prL]
            rw [if_pos ⟨q1, q2, q3, q4, hc⟩]
          have oe : OC t = .tup [.str "returned", .tup [.int a, .int b, .int c, .int d]] := by unfold OC; rw [pe]
          rw [hc] at cs
          rw [oe] at ou oc
          refine ⟨some (.bl true), some (.tup [.str "returned", .tup [.int a, .int b, .int c, .int d]]), ?_⟩
          simp [b_law_k72_2, b_law_k72_1, Iv.eVar, Iv.eC, Iv.eOp, Iv.eUn, Iv.aNil, Iv.aCons, Iv.eCall, Iv.eTup, Iv.eLst, Iv.eNew, Iv.eAnd, Iv.eOr, Iv.wNot, Iv.bVal, Iv.bAnd, Iv.bOr, Iv.bNot, Iv.eIf, Iv.eChain, Iv.mkTup, Iv.mkLst, Iv.mkNew, Iv.wAdd, Iv.wSub, Iv.wMul, Iv.wFdiv, Iv.wMod, Iv.wPow, Iv.wNeg, Iv.wLt, Iv.wLe, Iv.wGt, Iv.wGe, Iv.wIs, Iv.wIsNot, Iv.isFlat, Iv.inW, Iv.wIn, Iv.wNotIn, Iv.wIx, Iv.dat, Iv.datL, Iv.datS, Iv.listOf, Iv.seqOf, Iv.stillOf, Iv.oNo, Iv.oSome, Iv.cutW, Iv.wSl, Iv.eSl, Iv.gNm, Iv.gsNil, Iv.gsCons, Iv.gTu, Iv.setAt, Iv.gIx, Iv.sNext, Iv.sSeq, Iv.sIf, Iv.sRet, Iv.sEx, Iv.sAsg, Iv.sRaise, Iv.sBreak, Iv.sCont, Iv.iSeq, Iv.iRg, Iv.iRg2, Iv.forF, Iv.sFor, Iv.gUl, Iv.sPr, Iv.sPr3, Iv.wipeE, Iv.bYes, Iv.lcF, Iv.eLc, Iv.okW, Iv.okWs, Iv.okO, Iv.frzW, Iv.frzWs, Iv.fin, Iv.finX, Iv.finN, Iv.start0, Iv.runF, Iv.runN, Iv.eFn, Iv.bSum, Iv.bSorted, Iv.bAbs, Iv.bTuple, Iv.bList, Iv.bListN, Iv.blsOf, Iv.bAll, Iv.bAny, Iv.bInt, Iv.bIsi, Iv.isi, Iv.wRev, Iv.eLm, Iv.mAppend, Iv.mPop, Iv.mPopAt, Iv.lc2F, Iv.eLc2, Iv.Res.bind, Iv.rangeW, Iv.wAddN, Iv.shut_eq, Iv.iZp, Iv.zipW, bl, w4, bm, q, cs, ou, oc]
        | false =>
          have pe : pr t = none := by
            rw [hpr]
            simp only [prL]
            rw [if_neg (fun z => by rw [hc] at z; exact absurd z.2.2.2.2 (by decide))]
          have oe : OC t = .tup [.str "raised", .int (exI "InvalidText")] := by unfold OC; rw [pe]
          rw [hc] at cs
          rw [oe] at ou oc
          generalize exI "InvalidText" = ix at *
          refine ⟨some (.bl false), some (.tup [.str "raised", .int ix]), ?_⟩
          simp [b_law_k72_2, b_law_k72_1, Iv.eVar, Iv.eC, Iv.eOp, Iv.eUn, Iv.aNil, Iv.aCons, Iv.eCall, Iv.eTup, Iv.eLst, Iv.eNew, Iv.eAnd, Iv.eOr, Iv.wNot, Iv.bVal, Iv.bAnd, Iv.bOr, Iv.bNot, Iv.eIf, Iv.eChain, Iv.mkTup, Iv.mkLst, Iv.mkNew, Iv.wAdd, Iv.wSub, Iv.wMul, Iv.wFdiv, Iv.wMod, Iv.wPow, Iv.wNeg, Iv.wLt, Iv.wLe, Iv.wGt, Iv.wGe, Iv.wIs, Iv.wIsNot, Iv.isFlat, Iv.inW, Iv.wIn, Iv.wNotIn, Iv.wIx, Iv.dat, Iv.datL, Iv.datS, Iv.listOf, Iv.seqOf, Iv.stillOf, Iv.oNo, Iv.oSome, Iv.cutW, Iv.wSl, Iv.eSl, Iv.gNm, Iv.gsNil, Iv.gsCons, Iv.gTu, Iv.setAt, Iv.gIx, Iv.sNext, Iv.sSeq, Iv.sIf, Iv.sRet, Iv.sEx, Iv.sAsg, Iv.sRaise, Iv.sBreak, Iv.sCont, Iv.iSeq, Iv.iRg, Iv.iRg2, Iv.forF, Iv.sFor, Iv.gUl, Iv.sPr, Iv.sPr3, Iv.wipeE, Iv.bYes, Iv.lcF, Iv.eLc, Iv.okW, Iv.okWs, Iv.okO, Iv.frzW, Iv.frzWs, Iv.fin, Iv.finX, Iv.finN, Iv.start0, Iv.runF, Iv.runN, Iv.eFn, Iv.bSum, Iv.bSorted, Iv.bAbs, Iv.bTuple, Iv.bList, Iv.bListN, Iv.blsOf, Iv.bAll, Iv.bAny, Iv.bInt, Iv.bIsi, Iv.isi, Iv.wRev, Iv.eLm, Iv.mAppend, Iv.mPop, Iv.mPopAt, Iv.lc2F, Iv.eLc2, Iv.Res.bind, Iv.rangeW, Iv.wAddN, Iv.shut_eq, Iv.iZp, Iv.zipW, bl, w4, bm, q, cs, rr, ou, oc]
      · have pe : pr t = none := by
          rw [hpr]
          simp only [prL]
          rw [if_neg (fun z => q (mm.mpr ⟨z.1, z.2.1, z.2.2.1, z.2.2.2.1⟩))]
        have oe : OC t = .tup [.str "raised", .int (exI "InvalidText")] := by unfold OC; rw [pe]
        rw [oe] at ou oc
        generalize exI "InvalidText" = ix at *
        refine ⟨some (.bl false), some (.tup [.str "raised", .int ix]), ?_⟩
        simp [b_law_k72_2, b_law_k72_1, Iv.eVar, Iv.eC, Iv.eOp, Iv.eUn, Iv.aNil, Iv.aCons, Iv.eCall, Iv.eTup, Iv.eLst, Iv.eNew, Iv.eAnd, Iv.eOr, Iv.wNot, Iv.bVal, Iv.bAnd, Iv.bOr, Iv.bNot, Iv.eIf, Iv.eChain, Iv.mkTup, Iv.mkLst, Iv.mkNew, Iv.wAdd, Iv.wSub, Iv.wMul, Iv.wFdiv, Iv.wMod, Iv.wPow, Iv.wNeg, Iv.wLt, Iv.wLe, Iv.wGt, Iv.wGe, Iv.wIs, Iv.wIsNot, Iv.isFlat, Iv.inW, Iv.wIn, Iv.wNotIn, Iv.wIx, Iv.dat, Iv.datL, Iv.datS, Iv.listOf, Iv.seqOf, Iv.stillOf, Iv.oNo, Iv.oSome, Iv.cutW, Iv.wSl, Iv.eSl, Iv.gNm, Iv.gsNil, Iv.gsCons, Iv.gTu, Iv.setAt, Iv.gIx, Iv.sNext, Iv.sSeq, Iv.sIf, Iv.sRet, Iv.sEx, Iv.sAsg, Iv.sRaise, Iv.sBreak, Iv.sCont, Iv.iSeq, Iv.iRg, Iv.iRg2, Iv.forF, Iv.sFor, Iv.gUl, Iv.sPr, Iv.sPr3, Iv.wipeE, Iv.bYes, Iv.lcF, Iv.eLc, Iv.okW, Iv.okWs, Iv.okO, Iv.frzW, Iv.frzWs, Iv.fin, Iv.finX, Iv.finN, Iv.start0, Iv.runF, Iv.runN, Iv.eFn, Iv.bSum, Iv.bSorted, Iv.bAbs, Iv.bTuple, Iv.bList, Iv.bListN, Iv.blsOf, Iv.bAll, Iv.bAny, Iv.bInt, Iv.bIsi, Iv.isi, Iv.wRev, Iv.eLm, Iv.mAppend, Iv.mPop, Iv.mPopAt, Iv.lc2F, Iv.eLc2, Iv.Res.bind, Iv.rangeW, Iv.wAddN, Iv.shut_eq, Iv.iZp, Iv.zipW, bl, w4, bm, q, rr, ou, oc]
  · have pe : pr t = none := by rw [hpr]; exact prL_len h4
    have oe : OC t = .tup [.str "raised", .int (exI "InvalidText")] := by unfold OC; rw [pe]
    rw [oe] at ou oc
    have bl : bLen [.tup (l.map .int)] S = .ok (.int (l.length : Int)) S := by simp [bLen, seqOf]
    have w4 : wEq (.int (l.length : Int)) (.int 4) S = .ok (.bl false) S := by
      have : ¬ (l.length : Int) = 4 := by omega
      simp [wEq, datS, dat, shaped_i, PyData.eqv, this]
    generalize exI "InvalidText" = ix at *
    generalize l.map W.int = LL at *
    generalize (l.length : Int) = n at *
    refine ⟨some (.bl false), some (.tup [.str "raised", .int ix]), ?_⟩
    simp [b_law_k72_2, b_law_k72_1, Iv.eVar, Iv.eC, Iv.eOp, Iv.eUn, Iv.aNil, Iv.aCons, Iv.eCall, Iv.eTup, Iv.eLst, Iv.eNew, Iv.eAnd, Iv.eOr, Iv.wNot, Iv.bVal, Iv.bAnd, Iv.bOr, Iv.bNot, Iv.eIf, Iv.eChain, Iv.mkTup, Iv.mkLst, Iv.mkNew, Iv.wAdd, Iv.wSub, Iv.wMul, Iv.wFdiv, Iv.wMod, Iv.wPow, Iv.wNeg, Iv.wLt, Iv.wLe, Iv.wGt, Iv.wGe, Iv.wIs, Iv.wIsNot, Iv.isFlat, Iv.inW, Iv.wIn, Iv.wNotIn, Iv.wIx, Iv.dat, Iv.datL, Iv.datS, Iv.listOf, Iv.seqOf, Iv.stillOf, Iv.oNo, Iv.oSome, Iv.cutW, Iv.wSl, Iv.eSl, Iv.gNm, Iv.gsNil, Iv.gsCons, Iv.gTu, Iv.setAt, Iv.gIx, Iv.sNext, Iv.sSeq, Iv.sIf, Iv.sRet, Iv.sEx, Iv.sAsg, Iv.sRaise, Iv.sBreak, Iv.sCont, Iv.iSeq, Iv.iRg, Iv.iRg2, Iv.forF, Iv.sFor, Iv.gUl, Iv.sPr, Iv.sPr3, Iv.wipeE, Iv.bYes, Iv.lcF, Iv.eLc, Iv.okW, Iv.okWs, Iv.okO, Iv.frzW, Iv.frzWs, Iv.fin, Iv.finX, Iv.finN, Iv.start0, Iv.runF, Iv.runN, Iv.eFn, Iv.bSum, Iv.bSorted, Iv.bAbs, Iv.bTuple, Iv.bList, Iv.bListN, Iv.blsOf, Iv.bAll, Iv.bAny, Iv.bInt, Iv.bIsi, Iv.isi, Iv.wRev, Iv.eLm, Iv.mAppend, Iv.mPop, Iv.mPopAt, Iv.lc2F, Iv.eLc2, Iv.Res.bind, Iv.rangeW, Iv.wAddN, Iv.shut_eq, Iv.iZp, Iv.zipW, bl, w4, rr, ou, oc]
end
end G
end
section
set_option maxHeartbeats 4000000
set_option maxRecDepth 100000
namespace G
open PySem L2 Iv
theorem cut_ok {z : Str} (h : PyData.strOk z = true) (lo hi : Option Int) : PyData.strOk (cutS z lo hi) = true := by
  have h' : z.cps.toList.all (fun x => decide (x < 1114112)) = true := by
    rw [Array.all_toList]
    exact h
  show Array.all _ _ = true
  rw [← Array.all_toList, List.all_eq_true]
  rw [List.all_eq_true] at h'
  intro x hx
  refine h' x ?_
  have hx : x ∈ (z.cps.toList.drop (HT.sIx z.length 0 lo)).take (HT.sIx z.length z.length hi - HT.sIx z.length 0 lo) := by simpa [cutS] using hx
  exact List.mem_of_mem_drop (List.mem_of_mem_take hx)
def Z : Str := "0123456789-+ "
theorem Z_ok : PyData.strOk Z = true ∧ Z.length = 13 ∧ ∀ c ∈ Z.cps.toList, PyData.strOk ⟨#[c]⟩ = true := by decide +kernel
theorem E_ok : PyData.strOk ("" : Str) = true ∧ ("" : Str).length = 0 := by decide +kernel
def sgn : List W := chrs Z ++ [.str ""]
theorem sgn_len : sgn.length = 14 := by
  unfold sgn
  rw [List.length_append, chrs_length]
  have := Z_ok.2.1
  have e : Z.cps.size = Z.length := rfl
  rw [e, this]
  rfl
theorem sgn_mem {w : W} (h : w ∈ sgn) : ∃ s : Str, w = .str s ∧ PyData.strOk s = true ∧ s.length ≤ 1 := by
  rcases List.mem_append.mp h with h | h
  · obtain ⟨c, hc, rfl⟩ := List.mem_map.mp h
    exact ⟨⟨#[c]⟩, rfl, Z_ok.2.2 c hc, by show 1 ≤ 1; omega⟩
  · simp only [List.mem_cons, List.mem_nil_iff, or_false] at h
    subst h
    exact ⟨"", rfl, E_ok.1, by rw [E_ok.2]; omega⟩
theorem okKs_nums (n : Nat) : okKs n numsW = true := by
  unfold numsW
  generalize rng 1 50 = l
  induction l with
  | nil => rfl
  | cons i r ih => simp only [List.map_cons, okKs, okW, Bool.true_and]; exact ih
section
variable {ns : List Int} {o : MO} {c : Int} {line : Str} {R : W} {e5 e6 e7 e8 e9 e10 e11 : Option W}
theorem okS (ho : Town ns c o) : ([o, .D numsW] : Store).all (okO ([o, .D numsW] : Store).length) = true := by
  have h1 : okO 2 o = true := town_okO ho
  have h2 : okO 2 (.D numsW) = true := okKs_nums 2
  show (okO 2 o && (okO 2 (.D numsW) && true)) = true
  rw [h1, h2]
  rfl
theorem turn72 (hl : line.length ≤ 11) (hs : PyData.strOk line = true) (ho : Town ns c o) (c0 : 0 ≤ c) (c1 : c < 1000) : ∃ x6 x7 x8 x9 x10 x11 o', b_law_k72_6 [some (.scr ns), some (.mt 0), some R, some (.str line), some (.mt 1), e5, e6, e7, e8, e9, e10, e11, none, none, none, none] [o, .D numsW] = .ok (.nx [some (.scr ns), some (.mt 0), some R, some (.str line), some (.mt 1), e5, x6, x7, x8, x9, x10, x11, none, none, none, none]) [o', .D numsW] ∧ Town ns (c + 3) o' := by
  obtain ⟨a, o1, a0, a1, t1, d1⟩ := draw_spec (S := [o, .D numsW]) (k := 0) (limit := (line.length : Int) + 1) rfl ho c0 (by omega) (by omega) (by omega)
  obtain ⟨w, o2, hw, t2, d2⟩ := pick_spec (S := [o1, .D numsW]) (k := 0) (l := sgn) rfl t1 (by omega) (by omega) (by intro z; have := sgn_len; rw [z] at this; simp at this) (by rw [sgn_len]; decide)
  obtain ⟨s, rfl, s1, s2⟩ := sgn_mem hw
  obtain ⟨r, o3, r0, r1, t3, d3⟩ := draw_spec (S := [o2, .D numsW]) (k := 0) (limit := 2) rfl t2 (by omega) (by omega) (by omega) (by omega)
  have d1' : F_law_draw [.scr ns, .mt 0, .int ((line.length : Int) + 1)] [o, .D numsW] = .ok (.int a) [o1, .D numsW] := d1
  have d2' : F_law_pick [.scr ns, .mt 0, .lst sgn] [o1, .D numsW] = .ok (.str s) [o2, .D numsW] := d2
  have d3' : F_law_draw [.scr ns, .mt 0, .int 2] [o2, .D numsW] = .ok (.int r) [o3, .D numsW] := d3
  have l1 := cutS_length line none (some a)
  have l2 := cutS_length line (some (a + r)) none
  have tl : (cutS line none (some a) ++ s ++ cutS line (some (a + r)) none).length ≤ 100 := by
    rw [st_len, st_len]
    omega
  have ts : PyData.strOk (cutS line none (some a) ++ s ++ cutS line (some (a + r)) none) = true := by
    rw [st_ok, st_ok, cut_ok hs, s1, cut_ok hs]
    rfl
  have bz : bListS [.str "0123456789-+ "] [o1, .D numsW] = .ok (.lst (chrs Z)) [o1, .D numsW] := by
    have : Z.length ≤ 100000 := by rw [Z_ok.2.1]; decide
    show (if Z.length ≤ 100000 then Res.ok (W.lst (chrs Z)) [o1, .D numsW] else .bad) = _
    rw [if_pos this]
  have ad : wAdd (.lst (chrs Z)) (.lst [.str ""]) [o1, .D numsW] = .ok (.lst sgn) [o1, .D numsW] := by
    have : (chrs Z).length + ([.str ""] : List W).length ≤ 100000 := by
      have := sgn_len
      unfold sgn at this
      rw [List.length_append] at this
      omega
    show (if (chrs Z).length + ([.str ""] : List W).length ≤ 100000 then Res.ok (W.lst (chrs Z ++ [.str ""])) [o1, .D numsW] else .bad) = _
    rw [if_pos this]
    rfl
  have bl : bLen [.str line] [o, .D numsW] = .ok (.int (line.length : Int)) [o, .D numsW] := by
    simp only [bLen]
    rw [if_pos (by omega)]
  have ll : line.length ≤ 100000 := by omega
  have w1 : wAdd (.str (cutS line none (some a))) (.str s) [o2, .D numsW] = .ok (.str (cutS line none (some a) ++ s)) [o2, .D numsW] := by
    simp only [wAdd]
    rw [if_pos (by omega)]
  have w2 : wAdd (.str (cutS line none (some a) ++ s)) (.str (cutS line (some (a + r)) none)) [o3, .D numsW] = .ok (.str (cutS line none (some a) ++ s ++ cutS line (some (a + r)) none)) [o3, .D numsW] := by
    simp only [wAdd]
    rw [if_pos (by rw [st_len]; omega)]
  have q1 : wSl (.str line) none (some a) [o2, .D numsW] = .ok (.str (cutS line none (some a))) [o2, .D numsW] := by
    simp only [wSl]
    rw [if_pos ll]
  have q2 : wSl (.str line) (some (a + r)) none [o3, .D numsW] = .ok (.str (cutS line (some (a + r)) none)) [o3, .D numsW] := by
    simp only [wSl]
    rw [if_pos ll]
  have w3 : wAdd (.int a) (.int r) [o3, .D numsW] = .ok (.int (a + r)) [o3, .D numsW] := rfl
  have w4 : wAdd (.int (line.length : Int)) (.int 1) [o, .D numsW] = .ok (.int ((line.length : Int) + 1)) [o, .D numsW] := rfl
  generalize cutS line none (some a) ++ s ++ cutS line (some (a + r)) none = t at *
  generalize cutS line none (some a) ++ s = u at *
  generalize cutS line none (some a) = v1 at *
  generalize cutS line (some (a + r)) none = v2 at *
  have tl' : t.length ≤ 90000 := by omega
  have wt := PyProof.Rows.split_weight t D (by rw [D_len]; decide)
  have sp : wSplit t (.str "-") [o3, .D numsW] = .ok (.lst ((Txt.split t D).map .str)) [o3, .D numsW] := by
    show (if (D.length == 0) = false ∧ t.length ≤ 90000 then Res.ok (W.lst ((Txt.split t D).map .str)) [o3, .D numsW] else .bad) = _
    rw [if_pos ⟨by rw [D_len]; rfl, tl'⟩]
  have cmp : eLc [14] (iSeq (eSm wSplit (eVar 8) (eC (.str "-")))) (gNm 14) bYes (eGet (eVar 4) (eVar 14) (eC (.int 0))) [some (.scr ns), some (.mt 0), some R, some (.str line), some (.mt 1), e5, some (.int a), some (.str s), some (.str t), e9, e10, e11, none, none, none, none] [o3, .D numsW] = .ok (.lst (((Txt.split t D).map numOf).map .int)) [o3, .D numsW] := by
    have lc := lc_num (d0 := [some (.scr ns), some (.mt 0), some R, some (.str line), some (.mt 1), e5, some (.int a), some (.str s), some (.str t), e9, e10, e11, none, none, none, none]) (S := [o3, .D numsW]) rfl rfl rfl (Txt.split t D)
    have so : stillOf (.lst ((Txt.split t D).map W.str)) = some ((Txt.split t D).map W.str) := rfl
    have sl' : ((Txt.split t D).map W.str).length ≤ 100000 := by rw [List.length_map]; omega
    generalize (Txt.split t D).map W.str = WL at *
    generalize ((Txt.split t D).map numOf).map W.int = NL at *
    simp [Iv.eVar, Iv.eC, Iv.eOp, Iv.eUn, Iv.aNil, Iv.aCons, Iv.eCall, Iv.eTup, Iv.eLst, Iv.eNew, Iv.eAnd, Iv.eOr, Iv.wNot, Iv.bVal, Iv.bAnd, Iv.bOr, Iv.bNot, Iv.eIf, Iv.eChain, Iv.mkTup, Iv.mkLst, Iv.mkNew, Iv.wAdd, Iv.wSub, Iv.wMul, Iv.wFdiv, Iv.wMod, Iv.wPow, Iv.wNeg, Iv.wEq, Iv.wNe, Iv.wLt, Iv.wLe, Iv.wGt, Iv.wGe, Iv.wIs, Iv.wIsNot, Iv.isFlat, Iv.inW, Iv.wIn, Iv.wNotIn, Iv.wIx, Iv.dat, Iv.datL, Iv.datS, Iv.listOf, Iv.seqOf, Iv.oNo, Iv.oSome, Iv.cutW, Iv.wSl, Iv.eSl, Iv.gNm, Iv.gsNil, Iv.gsCons, Iv.gTu, Iv.setAt, Iv.gIx, Iv.sNext, Iv.sSeq, Iv.sIf, Iv.sRet, Iv.sEx, Iv.sAsg, Iv.sRaise, Iv.sBreak, Iv.sCont, Iv.iSeq, Iv.iRg, Iv.iRg2, Iv.forF, Iv.sFor, Iv.gUl, Iv.sPr, Iv.sPr3, Iv.wipeE, Iv.bYes, Iv.eLc, Iv.okW, Iv.okWs, Iv.okO, Iv.frzW, Iv.frzWs, Iv.fin, Iv.finX, Iv.finN, Iv.start0, Iv.runF, Iv.runN, Iv.eFn, Iv.bSum, Iv.bSorted, Iv.bLen, Iv.bAbs, Iv.bTuple, Iv.bList, Iv.bListN, Iv.blsOf, Iv.bAll, Iv.bAny, Iv.bInt, Iv.bIsi, Iv.isi, Iv.wRev, Iv.eLm, Iv.mAppend, Iv.mPop, Iv.mPopAt, Iv.lc2F, Iv.eLc2, Iv.Res.bind, Iv.rangeW, Iv.wAddN, Iv.shut_eq, Iv.iZp, Iv.zipW, eSm, sp, so, lc, sl']
  obtain ⟨x10, x11, gd⟩ := good72 (e0 := some (.scr ns)) (e1 := some (.mt 0)) (e2 := some R) (e3 := some (.str line)) (e5 := e5) (e6 := some (.int a)) (e7 := some (.str s)) (e10 := e10) (e11 := e11) (e12 := none) tl' ts (okS t3)
  refine ⟨some (.int a), some (.str s), some (.str t), some (.tup (((Txt.split t D).map numOf).map .int)), x10, x11, o3, ?_, by rw [show c + 3 = c + 1 + 1 + 1 by omega]; exact t3⟩
  have bt : ∀ l : List W, bTuple [.lst l] [o3, .D numsW] = .ok (.tup l) [o3, .D numsW] := fun _ => rfl
  generalize ((Txt.split t D).map numOf).map W.int = NL at *
  generalize ([o, .D numsW] : Store) = S0 at *
  generalize ([o1, .D numsW] : Store) = S1 at *
  generalize ([o2, .D numsW] : Store) = S2 at *
  generalize ([o3, .D numsW] : Store) = S3 at *
  have e6' : b_law_k72_6 = sSeq _ b_law_k72_5 := shut_eq _
  have e5' : b_law_k72_5 = sSeq _ b_law_k72_4 := shut_eq _
  have e4' : b_law_k72_4 = sSeq _ b_law_k72_3 := shut_eq _
  have e3' : b_law_k72_3 = sSeq _ b_law_k72_2 := shut_eq _
  rw [e6', e5', e4', e3']
  generalize b_law_k72_2 = B2 at *
  simp [Iv.eVar, Iv.eC, Iv.eOp, Iv.eUn, Iv.aNil, Iv.aCons, Iv.eCall, Iv.eTup, Iv.eLst, Iv.eNew, Iv.eAnd, Iv.eOr, Iv.wNot, Iv.bVal, Iv.bAnd, Iv.bOr, Iv.bNot, Iv.eIf, Iv.eChain, Iv.mkTup, Iv.mkLst, Iv.mkNew, Iv.wSub, Iv.wMul, Iv.wFdiv, Iv.wMod, Iv.wPow, Iv.wNeg, Iv.wEq, Iv.wNe, Iv.wLt, Iv.wLe, Iv.wGt, Iv.wGe, Iv.wIs, Iv.wIsNot, Iv.isFlat, Iv.inW, Iv.wIn, Iv.wNotIn, Iv.wIx, Iv.dat, Iv.datL, Iv.datS, Iv.listOf, Iv.seqOf, Iv.stillOf, Iv.oNo, Iv.oSome, Iv.cutW, Iv.eSl, Iv.gNm, Iv.gsNil, Iv.gsCons, Iv.gTu, Iv.setAt, Iv.gIx, Iv.sNext, Iv.sSeq, Iv.sIf, Iv.sRet, Iv.sEx, Iv.sAsg, Iv.sRaise, Iv.sBreak, Iv.sCont, Iv.iSeq, Iv.iRg, Iv.iRg2, Iv.forF, Iv.sFor, Iv.gUl, Iv.sPr, Iv.sPr3, Iv.wipeE, Iv.bYes, Iv.lcF, Iv.okW, Iv.okWs, Iv.okO, Iv.frzW, Iv.frzWs, Iv.fin, Iv.finX, Iv.finN, Iv.start0, Iv.runF, Iv.runN, Iv.eFn, Iv.bSum, Iv.bSorted, Iv.bAbs, Iv.bList, Iv.bListN, Iv.blsOf, Iv.bAll, Iv.bAny, Iv.bInt, Iv.bIsi, Iv.isi, Iv.wRev, Iv.eLm, Iv.mAppend, Iv.mPop, Iv.mPopAt, Iv.lc2F, Iv.eLc2, Iv.Res.bind, Iv.rangeW, Iv.wAddN, Iv.shut_eq, Iv.iZp, Iv.zipW, bl, w4, d1', bz, ad, d2', q1, w1, d3', w3, q2, w2, cmp, bt, gd]
theorem loop72 (hl : line.length ≤ 11) (hs : PyData.strOk line = true) : ∀ (l : List W) (c : Int) (o : MO) (e5 e6 e7 e8 e9 e10 e11 : Option W), Town ns c o → 0 ≤ c → c + 3 * (l.length : Int) < 900 → ∃ x5 x6 x7 x8 x9 x10 x11 c' o', forF (gNm 5) b_law_k72_6 l [some (.scr ns), some (.mt 0), some R, some (.str line), some (.mt 1), e5, e6, e7, e8, e9, e10, e11, none, none, none, none] [o, .D numsW] = .ok (.nx [some (.scr ns), some (.mt 0), some R, some (.str line), some (.mt 1), x5, x6, x7, x8, x9, x10, x11, none, none, none, none]) [o', .D numsW] ∧ Town ns c' o'
  | [], c, o, e5, e6, e7, e8, e9, e10, e11, ho, _, _ => ⟨e5, e6, e7, e8, e9, e10, e11, c, o, rfl, ho⟩
  | b :: l, c, o, e5, e6, e7, e8, e9, e10, e11, ho, h0, h1 => by
    rw [List.length_cons] at h1
    obtain ⟨y6, y7, y8, y9, y10, y11, o1, e1, t1⟩ := turn72 (R := R) (e5 := some b) (e6 := e6) (e7 := e7) (e8 := e8) (e9 := e9) (e10 := e10) (e11 := e11) hl hs ho h0 (by omega)
    obtain ⟨x5, x6, x7, x8, x9, x10, x11, c', o', e2, t2⟩ := loop72 hl hs l (c + 3) o1 (some b) y6 y7 y8 y9 y10 y11 t1 (by omega) (by omega)
    refine ⟨x5, x6, x7, x8, x9, x10, x11, c', o', ?_, t2⟩
    rw [forF, show gNm 5 b [some (.scr ns), some (.mt 0), some R, some (.str line), some (.mt 1), e5, e6, e7, e8, e9, e10, e11, none, none, none, none] [o, .D numsW] = .ok [some (.scr ns), some (.mt 0), some R, some (.str line), some (.mt 1), some b, e6, e7, e8, e9, e10, e11, none, none, none, none] [o, .D numsW] from rfl]
    simp only [Res.bind, e1]
    exact e2
end
end G
end
section
set_option maxHeartbeats 4000000
set_option maxRecDepth 100000
namespace G
open PySem L2 Iv
theorem bstr_i {i : Int} (h : i ∈ rng 1 50) (S : Store) : bStr [.int i] S = .ok (.str (num i)) S := by
  show (if i.natAbs.log2 < 1920 then Res.ok (W.str (num i)) S else .bad) = _
  rw [if_pos (num_f i h).2.2.1]
/-! ### the dict -/
theorem lc_dic {d0 : En} {S : Store} (h0 : d0.length = 16) : ∀ l : List Int, (∀ i ∈ l, i ∈ rng 1 50) → lcF (gNm 13) bYes (eTup (aCons (eCall bStr (aCons (eVar 13) aNil)) (aCons (eVar 13) aNil))) d0 (l.map .int) S = .ok (l.map fun i => .tup [.str (num i), .int i]) S
  | [], _ => rfl
  | i :: r, h => by
    have ih := lc_dic (S := S) h0 r fun x hx => h x (List.mem_cons_of_mem _ hx)
    have bs := bstr_i (h i List.mem_cons_self) S
    have g : eTup (aCons (eCall bStr (aCons (eVar 13) aNil)) (aCons (eVar 13) aNil)) (d0.set 13 (some (.int i))) S = .ok (.tup [.str (num i), .int i]) S := by
      simp only [eTup, aCons, aNil, eCall, eVar, Res.bind, List.getElem?_set_self (show 13 < d0.length by omega), bs, mkTup]
      rfl
    rw [List.map_cons, lcF]
    simp only [gNm, bYes, Res.bind, if_true, g, ih]
    rfl
theorem prs_dic : ∀ l : List Int, prsOf (l.map fun i => W.tup [.str (num i), .int i]) = some (l.map fun i => (num i, W.int i))
  | [] => rfl
  | i :: r => by simp [prsOf, prs_dic r]
theorem dict_ok {ns : List Int} {o : MO} {R : W} {line : Str} : eCall bDict (aCons (eLc [13] (iRg2 (aCons (eC (.int 1)) (aCons (eC (.int 51)) aNil))) (gNm 13) bYes (eTup (aCons (eCall bStr (aCons (eVar 13) aNil)) (aCons (eVar 13) aNil)))) aNil) [some (.scr ns), some (.mt 0), some R, some (.str line), none, none, none, none, none, none, none, none, none, none, none, none] [o] = .ok (.mt 1) [o, .D numsW] := by
  have lc := lc_dic (d0 := [some (.scr ns), some (.mt 0), some R, some (.str line), none, none, none, none, none, none, none, none, none, none, none, none]) (S := [o]) rfl (rng 1 50) fun _ h => h
  rw [← rangeW_rng] at lc
  have bd : bDict [.lst ((rng 1 50).map fun i => W.tup [.str (num i), .int i])] [o] = .ok (.mt 1) [o, .D numsW] := by
    have lo : Iv.listOf (.lst ((rng 1 50).map fun i => W.tup [.str (num i), .int i])) [o] = some ((rng 1 50).map fun i => W.tup [.str (num i), .int i]) := rfl
    simp only [bDict, lo, prs_dic]
    have nd : (((rng 1 50).map fun i => (num i, W.int i)).map (·.1)).Nodup := by
      rw [List.map_map]
      exact num_nd
    rw [if_pos nd]
    rfl
  have it : iRg2 (aCons (eC (.int 1)) (aCons (eC (.int 51)) aNil)) [some (.scr ns), some (.mt 0), some R, some (.str line), none, none, none, none, none, none, none, none, none, none, none, none] [o] = .ok (rangeW 1 50) [o] := rfl
  have rl : (rangeW 1 50).length ≤ 100000 := by rw [rangeW_rng, List.length_map, rng_length]; decide
  have lcq : eLc [13] (iRg2 (aCons (eC (.int 1)) (aCons (eC (.int 51)) aNil))) (gNm 13) bYes (eTup (aCons (eCall bStr (aCons (eVar 13) aNil)) (aCons (eVar 13) aNil))) [some (.scr ns), some (.mt 0), some R, some (.str line), none, none, none, none, none, none, none, none, none, none, none, none] [o] = .ok (.lst ((rng 1 50).map fun i => W.tup [.str (num i), .int i])) [o] := by
    simp only [eLc, it, Res.bind]
    rw [show wipeE [some (.scr ns), some (.mt 0), some R, some (.str line), none, none, none, none, none, none, none, none, none, none, none, none] [13] = [some (.scr ns), some (.mt 0), some R, some (.str line), none, none, none, none, none, none, none, none, none, none, none, none] from rfl, lc]
    simp only
    rw [if_pos rl]
  simp only [eCall, aCons, aNil, Res.bind, lcq, bd]
/-! ### bad texts -/
def btxt : List Str := ["", "-", "1", "1-1-1", "1-1-1-1-1", "1-1-1-1-", "-1-1-1-1", "1-1-1-01", "1-1-1-51", "0-1-1-1", "1-2-3-6", "1-1-1-1 ", " 1-1-1-1", "1--1-1", "+1-1-1-1", "1.1.1.1", "a-1-1-1"]
theorem btxt_no : ∀ t ∈ btxt, pr t = none ∧ t.length ≤ 100 ∧ PyData.strOk t = true := by decide +kernel
def bads72 (R : W) (line : Str) : List W := [.non, .int 5, .str "", .str "-", .str "1", .str "1-1-1", .str "1-1-1-1-1", .str "1-1-1-1-", .str "-1-1-1-1", .str "1-1-1-01", .str "1-1-1-51", .str "0-1-1-1", .str "1-2-3-6", .str "1-1-1-1 ", .str " 1-1-1-1", .str "1--1-1", .str "+1-1-1-1", .str "1.1.1.1", R, .lst [.str line], .bl true, .str "a-1-1-1"]
theorem bads_x {a b c d : Int} {line : Str} {S : Store} (hk : S.all (okO S.length) = true) : ∀ B ∈ bads72 (t4 a b c d) line, F_law_outcome_k72 [.int 0, B] S = .ok (.tup [.str "raised", .int (exI "InvalidText")]) S := by
  have tx : ∀ t ∈ btxt, F_law_outcome_k72 [.int 0, .str t] S = .ok (.tup [.str "raised", .int (exI "InvalidText")]) S := fun t ht => by
    obtain ⟨h1, h2, h3⟩ := btxt_no t ht
    have := out_t (S := S) (t := t) (by omega) h3 hk
    unfold OC at this
    rw [h1] at this
    exact this
  have no : ∀ x : W, isi x .str = some false → F_law_outcome_k72 [.int 0, x] S = .ok (.tup [.str "raised", .int (exI "InvalidText")]) S := fun x hx => by
    refine out72x hk ?_
    simp [F_parse_ring, b_parse_ring, Iv.eVar, Iv.eC, Iv.eOp, Iv.eUn, Iv.aNil, Iv.aCons, Iv.eCall, Iv.eTup, Iv.eLst, Iv.eNew, Iv.eAnd, Iv.eOr, Iv.wNot, Iv.bVal, Iv.bAnd, Iv.bOr, Iv.bNot, Iv.eIf, Iv.eChain, Iv.mkTup, Iv.mkLst, Iv.mkNew, Iv.wAdd, Iv.wSub, Iv.wMul, Iv.wFdiv, Iv.wMod, Iv.wPow, Iv.wNeg, Iv.wEq, Iv.wNe, Iv.wLt, Iv.wLe, Iv.wGt, Iv.wGe, Iv.wIs, Iv.wIsNot, Iv.isFlat, Iv.inW, Iv.wIn, Iv.wNotIn, Iv.wIx, Iv.dat, Iv.datL, Iv.datS, Iv.listOf, Iv.seqOf, Iv.stillOf, Iv.oNo, Iv.oSome, Iv.cutW, Iv.wSl, Iv.eSl, Iv.gNm, Iv.gsNil, Iv.gsCons, Iv.gTu, Iv.setAt, Iv.gIx, Iv.sNext, Iv.sSeq, Iv.sIf, Iv.sRet, Iv.sEx, Iv.sAsg, Iv.sRaise, Iv.sBreak, Iv.sCont, Iv.iSeq, Iv.iRg, Iv.iRg2, Iv.forF, Iv.sFor, Iv.gUl, Iv.sPr, Iv.sPr3, Iv.wipeE, Iv.bYes, Iv.lcF, Iv.eLc, Iv.okW, Iv.okWs, Iv.okO, Iv.frzW, Iv.frzWs, Iv.fin, Iv.finX, Iv.finN, Iv.start0, Iv.runF, Iv.runN, Iv.eFn, Iv.bSum, Iv.bSorted, Iv.bLen, Iv.bAbs, Iv.bTuple, Iv.bList, Iv.bListN, Iv.blsOf, Iv.bAll, Iv.bAny, Iv.bInt, Iv.bIsi, Iv.wRev, Iv.eLm, Iv.mAppend, Iv.mPop, Iv.mPopAt, Iv.lc2F, Iv.eLc2, Iv.Res.bind, Iv.rangeW, Iv.wAddN, Iv.shut_eq, Iv.iZp, Iv.zipW, hx]
  have m : ∀ t, t ∈ btxt → F_law_outcome_k72 [.int 0, .str t] S = .ok (.tup [.str "raised", .int (exI "InvalidText")]) S := tx
  simp only [btxt, List.forall_mem_cons, List.not_mem_nil, false_imp_iff, implies_true, and_true] at m
  obtain ⟨m1, m2, m3, m4, m5, m6, m7, m8, m9, m10, m11, m12, m13, m14, m15, m16, m17⟩ := m
  simp only [bads72, List.forall_mem_cons, List.not_mem_nil, false_imp_iff, implies_true, and_true]
  exact ⟨no _ rfl, no _ rfl, m1, m2, m3, m4, m5, m6, m7, m8, m9, m10, m11, m12, m13, m14, m15, m16, no _ rfl, no _ rfl, no _ rfl, m17⟩
theorem last_ok : pr "2-4-5-4" = some (2, 4, 5, 4) ∧ ("2-4-5-4" : Str).length ≤ 100 ∧ PyData.strOk ("2-4-5-4" : Str) = true := by decide +kernel
section
variable {e0 e1 e4 e5 e6 e7 e8 e9 e10 e11 : Option W} {S : Store} {line : Str}
theorem k72_9 {a b c d : Int} (hk : S.all (okO S.length) = true) : b_law_k72_9 [e0, e1, some (t4 a b c d), some (.str line), e4, e5, e6, e7, e8, e9, e10, e11, none, none, none, none] S = .ok (.rt (.bl true)) S := by
  have rr := raises_ok (n := "text") (c := "InvalidText") (by simp [exN]) S
  have ne : ∀ i : Int, wNe (.tup [.str "raised", .int i]) (.tup [.str "raised", .int i]) S = .ok (.bl false) S := fun i => by
    simp [wNe, datS, dat, datL, rs_sh, PyData.eqv, PyData.eqvAll]
  have lc : ∀ (d0 : En) (l : List W), 15 < d0.length → (∀ B ∈ l, F_law_outcome_k72 [.int 0, B] S = .ok (.tup [.str "raised", .int (exI "InvalidText")]) S) → lcF (gNm 15) (bVal (eOp wNe (eFn 2 F_law_outcome_k72 (aCons (eC (.int 0)) (aCons (eVar 15) aNil))) (eFn 1 F_law_raises (aCons (eC (.str "text")) aNil)))) (eVar 15) d0 l S = .ok [] S := fun d0 l h0 => by
    induction l with
    | nil => exact fun _ => rfl
    | cons B r ih =>
      intro hb
      have h1 := hb B List.mem_cons_self
      have h2 := ih fun z hz => hb z (List.mem_cons_of_mem _ hz)
      rw [lcF]
      simp only [gNm, Res.bind, bVal, eOp, eFn, aCons, aNil, eVar, eC, List.getElem?_set_self h0, List.length_cons, List.length_nil, if_true, h1, rr, ne]
      simp only [Nat.reduceAdd, if_true, h1, rr, ne, Bool.false_eq_true, if_false]
      exact h2
  have L1 := lc [e0, e1, some (t4 a b c d), some (.str line), e4, e5, e6, e7, e8, e9, e10, e11, some (.lst (bads72 (t4 a b c d) line)), none, none, none] (bads72 (t4 a b c d) line) (by simp) (bads_x hk)
  have so : stillOf (.lst (bads72 (t4 a b c d) line)) = some (bads72 (t4 a b c d) line) := rfl
  have ln : (bads72 (t4 a b c d) line).length ≤ 100000 := by show 22 ≤ 100000; decide
  obtain ⟨q1, q2, q3⟩ := last_ok
  have ou := out_t (S := S) (t := "2-4-5-4") (by omega) q3 hk
  have we : wEq (OC "2-4-5-4") (.tup [.str "returned", .tup [.int 2, .int 4, .int 5, .int 4]]) S = .ok (.bl true) S := by
    unfold OC
    rw [q1]
    simp [wEq, datS, dat, datL, rt_sh, PyData.eqv, PyData.eqvAll]
  have e0' : wNe (.lst []) (.lst []) S = .ok (.bl false) S := rfl
  have k7 : b_law_k72_7 [e0, e1, some (t4 a b c d), some (.str line), e4, e5, e6, e7, e8, e9, e10, e11, some (.lst (bads72 (t4 a b c d) line)), none, none, none] S = .ok (.rt (.bl true)) S := by
    generalize bads72 (t4 a b c d) line = BD at *
    generalize OC "2-4-5-4" = OCC at *
    simp [b_law_k72_7, Iv.eVar, Iv.eC, Iv.eOp, Iv.eUn, Iv.aNil, Iv.aCons, Iv.eCall, Iv.eTup, Iv.eLst, Iv.eNew, Iv.eAnd, Iv.eOr, Iv.wNot, Iv.bVal, Iv.bAnd, Iv.bOr, Iv.bNot, Iv.eIf, Iv.eChain, Iv.mkTup, Iv.mkLst, Iv.mkNew, Iv.wAdd, Iv.wSub, Iv.wMul, Iv.wFdiv, Iv.wMod, Iv.wPow, Iv.wNeg, Iv.wLt, Iv.wLe, Iv.wGt, Iv.wGe, Iv.wIs, Iv.wIsNot, Iv.isFlat, Iv.inW, Iv.wIn, Iv.wNotIn, Iv.wIx, Iv.dat, Iv.datL, Iv.datS, Iv.listOf, Iv.seqOf, Iv.oNo, Iv.oSome, Iv.cutW, Iv.wSl, Iv.eSl, Iv.gNm, Iv.gsNil, Iv.gsCons, Iv.gTu, Iv.setAt, Iv.gIx, Iv.sNext, Iv.sSeq, Iv.sIf, Iv.sRet, Iv.sEx, Iv.sAsg, Iv.sRaise, Iv.sBreak, Iv.sCont, Iv.iSeq, Iv.iRg, Iv.iRg2, Iv.forF, Iv.sFor, Iv.gUl, Iv.sPr, Iv.sPr3, Iv.wipeE, Iv.bYes, Iv.eLc, Iv.okW, Iv.okWs, Iv.okO, Iv.frzW, Iv.frzWs, Iv.fin, Iv.finX, Iv.finN, Iv.start0, Iv.runF, Iv.runN, Iv.eFn, Iv.bSum, Iv.bSorted, Iv.bLen, Iv.bAbs, Iv.bTuple, Iv.bList, Iv.bListN, Iv.blsOf, Iv.bAll, Iv.bAny, Iv.bInt, Iv.bIsi, Iv.isi, Iv.wRev, Iv.eLm, Iv.mAppend, Iv.mPop, Iv.mPopAt, Iv.lc2F, Iv.eLc2, Iv.Res.bind, Iv.rangeW, Iv.wAddN, Iv.shut_eq, Iv.iZp, Iv.zipW, so, L1, ln, e0', ou, we]
  have e9' : b_law_k72_9 = sSeq _ b_law_k72_8 := shut_eq _
  have e8' : b_law_k72_8 = sSeq _ b_law_k72_7 := shut_eq _
  rw [e9', e8']
  unfold bads72 at k7
  generalize b_law_k72_7 = B7 at *
  generalize t4 a b c d = R at *
  simp [Iv.eVar, Iv.eC, Iv.eOp, Iv.eUn, Iv.aNil, Iv.aCons, Iv.eCall, Iv.eTup, Iv.eLst, Iv.eNew, Iv.eAnd, Iv.eOr, Iv.wNot, Iv.bVal, Iv.bAnd, Iv.bOr, Iv.bNot, Iv.eIf, Iv.eChain, Iv.mkTup, Iv.mkLst, Iv.mkNew, Iv.wAdd, Iv.wSub, Iv.wMul, Iv.wFdiv, Iv.wMod, Iv.wPow, Iv.wNeg, Iv.wEq, Iv.wNe, Iv.wLt, Iv.wLe, Iv.wGt, Iv.wGe, Iv.wIs, Iv.wIsNot, Iv.isFlat, Iv.inW, Iv.wIn, Iv.wNotIn, Iv.wIx, Iv.dat, Iv.datL, Iv.datS, Iv.listOf, Iv.seqOf, Iv.stillOf, Iv.oNo, Iv.oSome, Iv.cutW, Iv.wSl, Iv.eSl, Iv.gNm, Iv.gsNil, Iv.gsCons, Iv.gTu, Iv.setAt, Iv.gIx, Iv.sNext, Iv.sSeq, Iv.sIf, Iv.sRet, Iv.sEx, Iv.sAsg, Iv.sRaise, Iv.sBreak, Iv.sCont, Iv.iSeq, Iv.iRg, Iv.iRg2, Iv.forF, Iv.sFor, Iv.gUl, Iv.sPr, Iv.sPr3, Iv.wipeE, Iv.bYes, Iv.lcF, Iv.eLc, Iv.okW, Iv.okWs, Iv.okO, Iv.frzW, Iv.frzWs, Iv.fin, Iv.finX, Iv.finN, Iv.start0, Iv.runF, Iv.runN, Iv.eFn, Iv.bSum, Iv.bSorted, Iv.bLen, Iv.bAbs, Iv.bTuple, Iv.bList, Iv.bListN, Iv.blsOf, Iv.bAll, Iv.bAny, Iv.bInt, Iv.bIsi, Iv.isi, Iv.wRev, Iv.eLm, Iv.mAppend, Iv.mPop, Iv.mPopAt, Iv.lc2F, Iv.eLc2, Iv.Res.bind, Iv.rangeW, Iv.wAddN, Iv.shut_eq, Iv.iZp, Iv.zipW, k7]
end
theorem law_true_k72 (ns : List Int) (hl : ns.length ≤ 63) : ∃ S', F_law_k72 [.scr ns] [] = .ok (.bl true) S' := by
  obtain ⟨o, ho, h1⟩ := town_spec ns []
  replace h1 := h1 hl
  obtain ⟨w, o1, hw, ho1, e1⟩ := pick_spec (S := [o]) (k := 0) (l := [.int 4, .int 12, .int 50]) rfl ho (by omega) (by omega) (by simp) (by simp)
  obtain ⟨m, rfl, m1, m2⟩ : ∃ m : Int, w = .int m ∧ 1 ≤ m ∧ m ≤ 50 := by
    simp only [List.mem_cons, List.mem_nil_iff, or_false] at hw
    rcases hw with rfl | rfl | rfl
    · exact ⟨4, rfl, by omega, by omega⟩
    · exact ⟨12, rfl, by omega, by omega⟩
    · exact ⟨50, rfl, by omega, by omega⟩
  obtain ⟨a, b, c, d, n1, o2, h, g1, g2, ho2, e2⟩ := ring_spec (S := [o1]) (k := 0) (most := m) rfl ho1 (by omega) (by omega) (by omega) (by omega)
  obtain ⟨r1, r2⟩ := RT_ok h
  have okT : ([o2] : Store).all (okO ([o2] : Store).length) = true := by
    simp only [List.all_cons, List.all_nil, Bool.and_true, town_okO ho2]
  -- the line
  obtain ⟨h1', h2', h3', h4', h5', h6', h7', h8', _⟩ := id h
  have b1 := bstr_i (in_rng h1' h2') [o2]
  have b2 := bstr_i (in_rng h3' h4') [o2]
  have b3 := bstr_i (in_rng h5' h6') [o2]
  have b4 := bstr_i (in_rng h7' h8') [o2]
  have jn : wJoin D (.lst [.str (num a), .str (num b), .str (num c), .str (num d)]) [o2] = .ok (.str (RT a b c d)) [o2] := by
    have so : strsOf [.str (num a), .str (num b), .str (num c), .str (num d)] = some (nums a b c d) := rfl
    have lo : Iv.listOf (.lst [.str (num a), .str (num b), .str (num c), .str (num d)]) [o2] = some [.str (num a), .str (num b), .str (num c), .str (num d)] := rfl
    have l1 := (num_f a (in_rng h1' h2')).1
    have l2 := (num_f b (in_rng h3' h4')).1
    have l3 := (num_f c (in_rng h5' h6')).1
    have l4 := (num_f d (in_rng h7' h8')).1
    simp only [wJoin, lo, so]
    rw [if_pos (by simp only [nums, List.map_cons, List.map_nil, List.sum_cons, List.sum_nil, List.length_cons, List.length_nil, D_len]; omega)]
    rfl
  have fr : F_format_ring [t4 a b c d] [o2] = .ok (.str (RT a b c d)) [o2] := by
    have c1 := check_ok h [o2]
    have c2 := ringtext_ok h [o2]
    simp [F_format_ring, b_format_ring, Iv.eVar, Iv.eC, Iv.eOp, Iv.eUn, Iv.aNil, Iv.aCons, Iv.eCall, Iv.eTup, Iv.eLst, Iv.eNew, Iv.eAnd, Iv.eOr, Iv.wNot, Iv.bVal, Iv.bAnd, Iv.bOr, Iv.bNot, Iv.eIf, Iv.eChain, Iv.mkTup, Iv.mkLst, Iv.mkNew, Iv.wAdd, Iv.wSub, Iv.wMul, Iv.wFdiv, Iv.wMod, Iv.wPow, Iv.wNeg, Iv.wEq, Iv.wNe, Iv.wLt, Iv.wLe, Iv.wGt, Iv.wGe, Iv.wIs, Iv.wIsNot, Iv.isFlat, Iv.inW, Iv.wIn, Iv.wNotIn, Iv.wIx, Iv.dat, Iv.datL, Iv.datS, Iv.listOf, Iv.seqOf, Iv.stillOf, Iv.oNo, Iv.oSome, Iv.cutW, Iv.wSl, Iv.eSl, Iv.gNm, Iv.gsNil, Iv.gsCons, Iv.gTu, Iv.setAt, Iv.gIx, Iv.sNext, Iv.sSeq, Iv.sIf, Iv.sRet, Iv.sEx, Iv.sAsg, Iv.sRaise, Iv.sBreak, Iv.sCont, Iv.iSeq, Iv.iRg, Iv.iRg2, Iv.forF, Iv.sFor, Iv.gUl, Iv.sPr, Iv.sPr3, Iv.wipeE, Iv.bYes, Iv.lcF, Iv.eLc, Iv.okW, Iv.okWs, Iv.okO, Iv.frzW, Iv.frzWs, Iv.fin, Iv.finX, Iv.finN, Iv.start0, Iv.runF, Iv.runN, Iv.eFn, Iv.bSum, Iv.bSorted, Iv.bLen, Iv.bAbs, Iv.bTuple, Iv.bList, Iv.bListN, Iv.blsOf, Iv.bAll, Iv.bAny, Iv.bInt, Iv.bIsi, Iv.isi, Iv.wRev, Iv.eLm, Iv.mAppend, Iv.mPop, Iv.mPopAt, Iv.lc2F, Iv.eLc2, Iv.Res.bind, Iv.rangeW, Iv.wAddN, Iv.shut_eq, Iv.iZp, Iv.zipW, c1, c2]
  have pl : pr (RT a b c d) = some (a, b, c, d) := by
    unfold pr
    rw [RT_split h]
    obtain ⟨g9, g10, g11, g12, g13, g14, g15, g16, g17, g18, g19, g20⟩ := id h
    simp only [nums, List.map_cons, List.map_nil, (num_f a (in_rng h1' h2')).2.2.2.2.1, (num_f b (in_rng h3' h4')).2.2.2.2.1, (num_f c (in_rng h5' h6')).2.2.2.2.1, (num_f d (in_rng h7' h8')).2.2.2.2.1, prL]
    rw [if_pos ⟨by omega, by omega, by omega, by omega, decide_eq_true ⟨g17, g18, g19, g20⟩⟩]
  have ou := out_t (S := [o2]) (t := RT a b c d) (by omega) r1 okT
  have oc := oc_ne (RT a b c d) [o2]
  have oe : OC (RT a b c d) = .tup [.str "returned", t4 a b c d] := by unfold OC; rw [pl]
  rw [oe] at ou oc
  have sn : wNe (.str (RT a b c d)) (.str (RT a b c d)) [o2] = .ok (.bl false) [o2] := by
    have q : SeqAt.shaped (.str (RT a b c d)) = true := by unfold SeqAt.shaped; simp [PyData.canLay0, r1, PyData.depth]
    simp [wNe, datS, dat, q, PyData.eqv]
  -- the rest
  obtain ⟨x5, x6, x7, x8, x9, x10, x11, c', o', lp, t'⟩ := loop72 (ns := ns) (R := t4 a b c d) r2 r1 (rangeW 0 12) n1 o2 none none none none none none none ho2 (by omega) (by rw [rangeW_rng]; simp [rng_length]; omega)
  have en := k72_9 (e0 := some (.scr ns)) (e1 := some (.mt 0)) (e4 := some (.mt 1)) (e5 := x5) (e6 := x6) (e7 := x7) (e8 := x8) (e9 := x9) (e10 := x10) (e11 := x11) (S := [o', .D numsW]) (line := RT a b c d) (a := a) (b := b) (c := c) (d := d) (okS t')
  have dk := dict_ok (ns := ns) (o := o2) (R := t4 a b c d) (line := RT a b c d)
  have it : ∀ d S, iRg (aCons (eC (.int 12)) aNil) d S = .ok (rangeW 0 12) S := fun _ _ => rfl
  have k10 : b_law_k72_10 [some (.scr ns), some (.mt 0), some (t4 a b c d), some (.str (RT a b c d)), some (.mt 1), none, none, none, none, none, none, none, none, none, none, none] [o2, .D numsW] = .ok (.rt (.bl true)) [o', .D numsW] := by
    rw [show b_law_k72_10 = sSeq (sFor (iRg (aCons (eC (.int 12)) aNil)) (gNm 5) b_law_k72_6) b_law_k72_9 from shut_eq _]
    generalize b_law_k72_6 = B6 at *
    generalize b_law_k72_9 = B9 at *
    simp only [sSeq, sFor, it, Res.bind, lp, en]
  have k11 : b_law_k72_11 [some (.scr ns), some (.mt 0), some (t4 a b c d), some (.str (RT a b c d)), none, none, none, none, none, none, none, none, none, none, none, none] [o2] = .ok (.rt (.bl true)) [o', .D numsW] := by
    rw [show b_law_k72_11 = sSeq (sAsg _ (gNm 4)) b_law_k72_10 from shut_eq _]
    generalize b_law_k72_10 = B10 at *
    simp only [sSeq, sAsg, dk, Res.bind, gNm]
    exact k10
  refine ⟨([o', .D numsW] : Store).take 0, ?_⟩
  have e14 : b_law_k72_14 = sSeq _ b_law_k72_13 := shut_eq _
  have e13 : b_law_k72_13 = sSeq _ b_law_k72_12 := shut_eq _
  have e12 : b_law_k72_12 = sSeq _ b_law_k72_11 := shut_eq _
  have eD : ("-" : Str) = D := rfl
  clear lp en dk k10
  generalize b_law_k72_11 = B11 at *
  generalize RT a b c d = LN at *
  generalize ([o', .D numsW] : Store) = SE at *
  simp [F_law_k72, b_law_k72, e14, e13, e12, Iv.eVar, Iv.eC, Iv.eOp, Iv.eUn, Iv.aNil, Iv.aCons, Iv.eCall, Iv.eTup, Iv.eLst, Iv.eNew, Iv.eAnd, Iv.eOr, Iv.wNot, Iv.bVal, Iv.bAnd, Iv.bOr, Iv.bNot, Iv.eIf, Iv.eChain, Iv.mkTup, Iv.mkLst, Iv.mkNew, Iv.wAdd, Iv.wSub, Iv.wMul, Iv.wFdiv, Iv.wMod, Iv.wPow, Iv.wNeg, Iv.wEq, Iv.wLt, Iv.wLe, Iv.wGt, Iv.wGe, Iv.wIs, Iv.wIsNot, Iv.isFlat, Iv.inW, Iv.wIn, Iv.wNotIn, Iv.wIx, Iv.dat, Iv.datL, Iv.datS, Iv.listOf, Iv.seqOf, Iv.stillOf, Iv.oNo, Iv.oSome, Iv.cutW, Iv.wSl, Iv.eSl, Iv.gNm, Iv.gsNil, Iv.gsCons, Iv.gTu, Iv.setAt, Iv.gIx, Iv.sNext, Iv.sSeq, Iv.sIf, Iv.sRet, Iv.sEx, Iv.sAsg, Iv.sRaise, Iv.sBreak, Iv.sCont, Iv.iSeq, Iv.iRg, Iv.iRg2, Iv.forF, Iv.sFor, Iv.gUl, Iv.sPr, Iv.sPr3, Iv.wipeE, Iv.bYes, Iv.lcF, Iv.eLc, Iv.okW, Iv.okWs, Iv.okO, Iv.frzW, Iv.frzWs, Iv.fin, Iv.finX, Iv.finN, Iv.start0, Iv.runF, Iv.runN, Iv.eFn, Iv.bSum, Iv.bSorted, Iv.bLen, Iv.bAbs, Iv.bTuple, Iv.bList, Iv.bListN, Iv.blsOf, Iv.bAll, Iv.bAny, Iv.bInt, Iv.bIsi, Iv.isi, Iv.wRev, Iv.eLm, Iv.mAppend, Iv.mPop, Iv.mPopAt, Iv.lc2F, Iv.eLc2, Iv.Res.bind, Iv.rangeW, Iv.wAddN, Iv.shut_eq, Iv.iZp, Iv.zipW, eSm, eD, h1, e1, e2, b1, b2, b3, b4, jn, fr, sn, ou, oc, k11]
end G
end
section
set_option maxHeartbeats 4000000
set_option maxRecDepth 100000
namespace G
open PySem PySem.Spec PyProof.Rows L2 Iv
theorem units1 {k : Nat} {A : Around} (r : Room k A) : A.units + 1 < cLine := by have := r.un; omega
theorem units65 {k : Nat} {A : Around} (r : Room k A) : A.units + 65 < cLine := by have := r.un; omega
def topS (i : Nat) : Stmt := PySem.Challenge.pw_fourbars_k72_whole_texts.main.body.getD i (.Pass ⟨0, 0, 0, 0⟩)
abbrev s_is_between : Stmt := topS 14
abbrev N_is_between : List Str := ["value", "low", "high"]
theorem sc_is_between : FnScope N_is_between ["value", "low", "high"] (defScope s_is_between) := ⟨rfl, rfl, rfl, by decide +kernel, rfl, by decide +kernel, by decide +kernel⟩
abbrev s_does_close : Stmt := topS 15
abbrev N_does_close : List Str := ["lengths"]
theorem sc_does_close : FnScope N_does_close ["lengths"] (defScope s_does_close) := ⟨rfl, rfl, rfl, by decide +kernel, rfl, by decide +kernel, by decide +kernel⟩
abbrev s_is_ring : Stmt := topS 16
abbrev N_is_ring : List Str := ["value", "one"]
theorem sc_is_ring : FnScope N_is_ring ["value"] (defScope s_is_ring) := ⟨rfl, rfl, rfl, by decide +kernel, rfl, by decide +kernel, by decide +kernel⟩
abbrev s_check_ring : Stmt := topS 17
abbrev N_check_ring : List Str := ["value"]
theorem sc_check_ring : FnScope N_check_ring ["value"] (defScope s_check_ring) := ⟨rfl, rfl, rfl, by decide +kernel, rfl, by decide +kernel, by decide +kernel⟩
abbrev s_ring_text : Stmt := topS 19
abbrev N_ring_text : List Str := ["ring", "length"]
theorem sc_ring_text : FnScope N_ring_text ["ring"] (defScope s_ring_text) := ⟨rfl, rfl, rfl, by decide +kernel, rfl, by decide +kernel, by decide +kernel⟩
abbrev s_format_ring : Stmt := topS 20
abbrev N_format_ring : List Str := ["ring"]
theorem sc_format_ring : FnScope N_format_ring ["ring"] (defScope s_format_ring) := ⟨rfl, rfl, rfl, by decide +kernel, rfl, by decide +kernel, by decide +kernel⟩
abbrev s_length_of : Stmt := topS 21
abbrev N_length_of : List Str := ["word", "sign"]
theorem sc_length_of : FnScope N_length_of ["word"] (defScope s_length_of) := ⟨rfl, rfl, rfl, by decide +kernel, rfl, by decide +kernel, by decide +kernel⟩
abbrev s_parse_ring : Stmt := topS 22
abbrev N_parse_ring : List Str := ["text", "found", "word"]
theorem sc_parse_ring : FnScope N_parse_ring ["text"] (defScope s_parse_ring) := ⟨rfl, rfl, rfl, by decide +kernel, rfl, by decide +kernel, by decide +kernel⟩
abbrev s_law_town : Stmt := topS 24
abbrev N_law_town : List Str := ["script"]
theorem sc_law_town : FnScope N_law_town ["script"] (defScope s_law_town) := ⟨rfl, rfl, rfl, by decide +kernel, rfl, by decide +kernel, by decide +kernel⟩
abbrev s_law_draw : Stmt := topS 25
abbrev N_law_draw : List Str := ["script", "town", "limit", "at", "left", "number"]
theorem sc_law_draw : FnScope N_law_draw ["script", "town", "limit"] (defScope s_law_draw) := ⟨rfl, rfl, rfl, by decide +kernel, rfl, by decide +kernel, by decide +kernel⟩
abbrev s_law_pick : Stmt := topS 26
abbrev N_law_pick : List Str := ["script", "town", "choices"]
theorem sc_law_pick : FnScope N_law_pick ["script", "town", "choices"] (defScope s_law_pick) := ⟨rfl, rfl, rfl, by decide +kernel, rfl, by decide +kernel, by decide +kernel⟩
abbrev s_law_outcome : Stmt := topS 27
abbrev N_law_outcome : List Str := ["way", "arguments", "caught", "result", "error"]
theorem sc_law_outcome : FnScope N_law_outcome ["way", "arguments"] (defScope s_law_outcome) := ⟨rfl, rfl, rfl, by decide +kernel, rfl, by decide +kernel, by decide +kernel⟩
abbrev s_law_name : Stmt := topS 28
abbrev N_law_name : List Str := ["caught", "found"]
theorem sc_law_name : FnScope N_law_name ["caught"] (defScope s_law_name) := ⟨rfl, rfl, rfl, by decide +kernel, rfl, by decide +kernel, by decide +kernel⟩
abbrev s_law_raises : Stmt := topS 29
abbrev N_law_raises : List Str := ["name", "names"]
theorem sc_law_raises : FnScope N_law_raises ["name"] (defScope s_law_raises) := ⟨rfl, rfl, rfl, by decide +kernel, rfl, by decide +kernel, by decide +kernel⟩
abbrev s_law_closes : Stmt := topS 30
abbrev N_law_closes : List Str := ["ring", "one"]
theorem sc_law_closes : FnScope N_law_closes ["ring"] (defScope s_law_closes) := ⟨rfl, rfl, rfl, by decide +kernel, rfl, by decide +kernel, by decide +kernel⟩
abbrev s_law_ring : Stmt := topS 31
abbrev N_law_ring : List Str := ["script", "town", "most", "a", "b", "c", "way", "ring", "middle", "at", "k", "one"]
theorem sc_law_ring : FnScope N_law_ring ["script", "town", "most"] (defScope s_law_ring) := ⟨rfl, rfl, rfl, by decide +kernel, rfl, by decide +kernel, by decide +kernel⟩
abbrev s_law_call : Stmt := topS 32
abbrev N_law_call : List Str := ["way", "arguments"]
theorem sc_law_call : FnScope N_law_call ["way", "arguments"] (defScope s_law_call) := ⟨rfl, rfl, rfl, by decide +kernel, rfl, by decide +kernel, by decide +kernel⟩
abbrev s_law : Stmt := topS 33
abbrev N_law : List Str := ["script", "town", "ring", "line", "numbers", "k", "at", "sign", "other", "found", "good", "due", "bads", "one", "word", "bad"]
theorem sc_law : FnScope N_law ["script"] (defScope s_law) := ⟨rfl, rfl, rfl, by decide +kernel, rfl, by decide +kernel, by decide +kernel⟩
section
variable {P : Program} {w : World} {K : PySem.W.Frag} {mg : Str → Option Value} {base : Heap}
theorem ok_is_between {f : Addr} {fd : FuncData} (B : Bt mg) (F : Fun K "is_between" "is_between" s_is_between f fd) (g : mg "is_between" = some (.ref f))  : Ok P w K mg base 1 "is_between" 3 F_is_between := by
  have nd := sc_is_between.nd
  exact ok_fn (k := 0) (b := b_is_between) F sc_is_between (fun cdv A outer s H E hr => (sv_one (sv_ret (ev_and (ev_isi .int (ev_var (i := 0)) rfl B.isinstance rfl B.int bb_int) (ev_and (ev_not (ev_isi .bool (ev_var (i := 0)) rfl B.isinstance rfl B.bool bb_bool)) (ev_one (ev_chain o_le o_le (ev_var (i := 1)) (ev_var (i := 0)) (ev_var (i := 2))))))))) g (fun _ _ _ _ _ _ us hl => match us, hl with | [_, _, _], _ => rfl)
theorem ok_does_close {f : Addr} {fd : FuncData} (B : Bt mg) (F : Fun K "does_close" "does_close" s_does_close f fd) (g : mg "does_close" = some (.ref f))  : Ok P w K mg base 1 "does_close" 1 F_does_close := by
  have nd := sc_does_close.nd
  exact ok_fn (k := 0) (b := b_does_close) F sc_does_close (fun cdv A outer s H E hr => (sv_one (sv_ret (ev_cmp (o_lt hr.units0) (ev_op o_mul ev_int (ev_cb (c_max rfl hr.units) rfl B.max bb_max (av_cons (ev_var (i := 0)) av_nil))) (ev_cb (c_sum rfl) rfl B.sum bb_sum (av_cons (ev_var (i := 0)) av_nil)))))) g (fun _ _ _ _ _ _ us hl => match us, hl with | [_], _ => rfl)
theorem okN_does_close {f : Addr} {fd : FuncData} (B : Bt mg) (F : Fun K "does_close" "does_close" s_does_close f fd) (g : mg "does_close" = some (.ref f))  : OkN P w K mg base 1 "does_close" 1 F_does_close := by
  have nd := sc_does_close.nd
  exact okN_fn (k := 0) (b := b_does_close) F sc_does_close (fun E' cdv A outer s H E hr => (sv_one (sv_ret (ev_cmp (o_lt hr.units0) (ev_op o_mul ev_int (ev_cb (c_max rfl hr.units) rfl B.max bb_max (av_cons (ev_var (i := 0)) av_nil))) (ev_cb (c_sum rfl) rfl B.sum bb_sum (av_cons (ev_var (i := 0)) av_nil)))))) g (fun _ _ _ _ _ _ us hl => match us, hl with | [_], _ => rfl)
theorem ok_is_ring {f : Addr} {fd : FuncData} (B : Bt mg) (F : Fun K "is_ring" "is_ring" s_is_ring f fd) (g : mg "is_ring" = some (.ref f)) (G_is_between : Ok P w K mg base 1 "is_between" 3 F_is_between) (G_does_close : Ok P w K mg base 1 "does_close" 1 F_does_close) : Ok P w K mg base 2 "is_ring" 1 F_is_ring := by
  have nd := sc_is_ring.nd
  exact ok_fn (k := 1) (b := b_is_ring) F sc_is_ring (fun cdv A outer s H E hr => (sv_cons (sv_if (PW.pt (wv_or (tv_not (tv_val (ev_isi .tuple (ev_var (i := 0)) rfl B.isinstance rfl B.tuple bb_tuple))) (wv_or (tv_cmp (o_ne hr.units) (ev_cb c_len rfl B.len bb_len (av_cons (ev_var (i := 0)) av_nil)) ev_int) (wv_or1 (tv_not (tv_val (ev_cb (c_all rfl) rfl B.all bb_all (av_cons (ev_lc (own := [("one", 1)]) rfl nd (iv_seq (ev_var (i := 0))) (blkOk_by (own := [("one", 1)]) (N := N_is_ring) (sc := defScope s_is_ring) (by decide +kernel)) (fun _ _ _ _ _ => (gw_nm (i := 1) nd)) (fun _ _ _ _ _ => tsv_nil) (fun _ _ _ _ _ => (ev_fn G_is_between (hr.mono (by decide)) (av_cons (ev_var (i := 1)) (av_cons ev_int (av_cons ev_int av_nil)))))) av_nil)))))))) (sv_one (sv_ret ev_bl)) sv_nil)
    (sv_one (sv_ret (ev_fn G_does_close (hr.mono (by decide)) (av_cons (ev_var (i := 0)) av_nil)))))) g (fun _ _ _ _ _ _ us hl => match us, hl with | [_], _ => rfl)
theorem okN_is_ring {f : Addr} {fd : FuncData} (B : Bt mg) (F : Fun K "is_ring" "is_ring" s_is_ring f fd) (g : mg "is_ring" = some (.ref f)) (G_is_between : Ok P w K mg base 1 "is_between" 3 F_is_between) (GN_does_close : OkN P w K mg base 1 "does_close" 1 F_does_close) : OkN P w K mg base 2 "is_ring" 1 F_is_ring := by
  have nd := sc_is_ring.nd
  exact okN_fn (k := 1) (b := b_is_ring) F sc_is_ring (fun E' cdv A outer s H E hr => (sv_cons (sv_if (PW.pt (wv_or (tv_not (tv_val (ev_isi .tuple (ev_var (i := 0)) rfl B.isinstance rfl B.tuple bb_tuple))) (wv_or (tv_cmp (o_ne hr.units) (ev_cb c_len rfl B.len bb_len (av_cons (ev_var (i := 0)) av_nil)) ev_int) (wv_or1 (tv_not (tv_val (ev_cb (c_all rfl) rfl B.all bb_all (av_cons (ev_lc (own := [("one", 1)]) rfl nd (iv_seq (ev_var (i := 0))) (blkOk_by (own := [("one", 1)]) (N := N_is_ring) (sc := defScope s_is_ring) (by decide +kernel)) (fun _ _ _ _ _ => (gw_nm (i := 1) nd)) (fun _ _ _ _ _ => tsv_nil) (fun _ _ _ _ _ => (ev_fn G_is_between (hr.mono (by decide)) (av_cons (ev_var (i := 1)) (av_cons ev_int (av_cons ev_int av_nil)))))) av_nil)))))))) (sv_one (sv_ret ev_bl)) sv_nil)
    (sv_one (sv_ret (ev_fnN GN_does_close (hr.mono (by decide)) (av_cons (ev_var (i := 0)) av_nil)))))) g (fun _ _ _ _ _ _ us hl => match us, hl with | [_], _ => rfl)
theorem ok_check_ring {f : Addr} {fd : FuncData} (B : Bt mg) (F : Fun K "check_ring" "check_ring" s_check_ring f fd) (g : mg "check_ring" = some (.ref f)) (G_is_ring : Ok P w K mg base 2 "is_ring" 1 F_is_ring) : Ok P w K mg base 3 "check_ring" 1 F_check_ring := by
  have nd := sc_check_ring.nd
  exact ok_fn (k := 2) (b := b_check_ring) F sc_check_ring (fun cdv A outer s H E hr => (sv_one (sv_if (tv_not (tv_val (ev_fn G_is_ring (hr.mono (by decide)) (av_cons (ev_var (i := 0)) av_nil)))) (sv_one (sv_never rfl)) sv_nil))) g (fun _ _ _ _ _ _ us hl => match us, hl with | [_], _ => rfl)
theorem ok_ring_text {f : Addr} {fd : FuncData} (B : Bt mg) (F : Fun K "ring_text" "ring_text" s_ring_text f fd) (g : mg "ring_text" = some (.ref f))  : Ok P w K mg base 1 "ring_text" 1 F_ring_text := by
  have nd := sc_ring_text.nd
  exact ok_fn (k := 0) (b := b_ring_text) F sc_ring_text (fun cdv A outer s H E hr => (sv_one (sv_ret (ev_join ev_str (ev_lc (own := [("length", 1)]) rfl nd (iv_seq (ev_var (i := 0))) (blkOk_by (own := [("length", 1)]) (N := N_ring_text) (sc := defScope s_ring_text) (by decide +kernel)) (fun _ _ _ _ _ => (gw_nm (i := 1) nd)) (fun _ _ _ _ _ => tsv_nil) (fun _ _ _ _ _ => (ev_ct c_str rfl B.str bb_str (av_cons (ev_var (i := 1)) av_nil)))))))) g (fun _ _ _ _ _ _ us hl => match us, hl with | [_], _ => rfl)
theorem okN_ring_text {f : Addr} {fd : FuncData} (B : Bt mg) (F : Fun K "ring_text" "ring_text" s_ring_text f fd) (g : mg "ring_text" = some (.ref f))  : OkN P w K mg base 1 "ring_text" 1 F_ring_text := by
  have nd := sc_ring_text.nd
  exact okN_fn (k := 0) (b := b_ring_text) F sc_ring_text (fun E' cdv A outer s H E hr => (sv_one (sv_ret (ev_join ev_str (ev_lc (own := [("length", 1)]) rfl nd (iv_seq (ev_var (i := 0))) (blkOk_by (own := [("length", 1)]) (N := N_ring_text) (sc := defScope s_ring_text) (by decide +kernel)) (fun _ _ _ _ _ => (gw_nm (i := 1) nd)) (fun _ _ _ _ _ => tsv_nil) (fun _ _ _ _ _ => (ev_ct c_str rfl B.str bb_str (av_cons (ev_var (i := 1)) av_nil)))))))) g (fun _ _ _ _ _ _ us hl => match us, hl with | [_], _ => rfl)
theorem ok_format_ring {f : Addr} {fd : FuncData} (B : Bt mg) (F : Fun K "format_ring" "format_ring" s_format_ring f fd) (g : mg "format_ring" = some (.ref f)) (G_check_ring : Ok P w K mg base 3 "check_ring" 1 F_check_ring) (G_ring_text : Ok P w K mg base 1 "ring_text" 1 F_ring_text) : Ok P w K mg base 4 "format_ring" 1 F_format_ring := by
  have nd := sc_format_ring.nd
  exact ok_fn (k := 3) (b := b_format_ring) F sc_format_ring (fun cdv A outer s H E hr => (sv_cons (sv_ex (ev_fn G_check_ring (hr.mono (by decide)) (av_cons (ev_var (i := 0)) av_nil)))
    (sv_one (sv_ret (ev_fn G_ring_text (hr.mono (by decide)) (av_cons (ev_var (i := 0)) av_nil)))))) g (fun _ _ _ _ _ _ us hl => match us, hl with | [_], _ => rfl)
theorem ok_length_of {f : Addr} {fd : FuncData} (B : Bt mg) (F : Fun K "length_of" "length_of" s_length_of f fd) (g : mg "length_of" = some (.ref f))  : Ok P w K mg base 1 "length_of" 1 F_length_of := by
  have nd := sc_length_of.nd
  exact ok_fn (k := 0) (b := b_length_of) F sc_length_of (fun cdv A outer s H E hr => (sv_one (sv_ret (ev_if (PW.pt (wv_and (tv_chain o_le o_le ev_int (ev_cb c_len rfl B.len bb_len (av_cons (ev_var (i := 0)) av_nil)) ev_int) (wv_and1 (tv_val (ev_cb (c_all rfl) rfl B.all bb_all (av_cons (ev_lc (own := [("sign", 1)]) rfl nd (iv_str (ev_var (i := 0))) (blkOk_by (own := [("sign", 1)]) (N := N_length_of) (sc := defScope s_length_of) (by decide +kernel)) (fun _ _ _ _ _ => (gw_nm (i := 1) nd)) (fun _ _ _ _ _ => tsv_nil) (fun _ _ _ _ _ => (ev_cmp o_inS (ev_var (i := 1)) ev_str))) av_nil)))))) (ev_ct c_intS rfl B.int bb_int (av_cons (ev_var (i := 0)) av_nil)) ev_int)))) g (fun _ _ _ _ _ _ us hl => match us, hl with | [_], _ => rfl)
theorem okX_parse_ring {f : Addr} {fd : FuncData} (B : Bt mg) (F : Fun K "parse_ring" "parse_ring" s_parse_ring f fd) (g : mg "parse_ring" = some (.ref f)) (D_InvalidText : ExcD K mg "InvalidText") (G_length_of : Ok P w K mg base 1 "length_of" 1 F_length_of) (GN_is_ring : OkN P w K mg base 2 "is_ring" 1 F_is_ring) (GN_ring_text : OkN P w K mg base 1 "ring_text" 1 F_ring_text) : OkX P w K mg base 3 "parse_ring" 1 F_parse_ring := by
  have nd := sc_parse_ring.nd
  exact okX_fn (k := 2) (b := b_parse_ring) F sc_parse_ring (fun cdv A outer s H E hr tk => (sv_cons (sv_if (tv_not (tv_val (ev_isi .str (ev_var (i := 0)) rfl B.isinstance rfl B.str bb_str))) (sv_one (sv_raise rfl tk D_InvalidText)) sv_nil)
    (sv_cons (sv_set (i := 1) nd (ev_ct c_tuple rfl B.tuple bb_tuple (av_cons (ev_lc (own := [("word", 2)]) rfl nd (iv_seq (ev_split (ev_var (i := 0)) ev_str)) (blkOk_by (own := [("word", 2)]) (N := N_parse_ring) (sc := defScope s_parse_ring) (by decide +kernel)) (fun _ _ _ _ _ => (gw_nm (i := 2) nd)) (fun _ _ _ _ _ => tsv_nil) (fun _ _ _ _ _ => (ev_fn G_length_of (hr.mono (by decide)) (av_cons (ev_var (i := 2)) av_nil)))) av_nil)))
    (sv_cons (sv_if (PW.pt (wv_or (tv_not (tv_val (ev_fnN GN_is_ring (hr.mono (by decide)) (av_cons (ev_var (i := 1)) av_nil)))) (wv_or1 (tv_cmp (o_ne hr.units) (ev_fnN GN_ring_text (hr.mono (by decide)) (av_cons (ev_var (i := 1)) av_nil)) (ev_var (i := 0)))))) (sv_one (sv_raise rfl tk D_InvalidText)) sv_nil)
    (sv_one (sv_ret (ev_var (i := 1)))))))) g (fun _ _ _ _ _ _ us hl => match us, hl with | [_], _ => rfl)
theorem ok_law_town {f : Addr} {fd : FuncData} (B : Bt mg) (F : Fun K "_law_town" "_law_town" s_law_town f fd) (g : mg "_law_town" = some (.ref f))  : Ok P w K mg base 1 "_law_town" 1 F_law_town := by
  have nd := sc_law_town.nd
  exact ok_new (k := 0) (b := b_law_town) F sc_law_town (fun cdv A outer s H E hr => (sv_one (sv_ret (ev_op o_addN (ev_lst (av_cons ev_int av_nil)) (ev_ct c_list rfl B.list bb_list (av_cons (ev_var (i := 0)) av_nil)))))) g (fun _ _ _ _ _ _ us hl => match us, hl with | [_], _ => rfl)
theorem ok_law_draw {f : Addr} {fd : FuncData} (B : Bt mg) (F : Fun K "_law_draw" "_law_draw" s_law_draw f fd) (g : mg "_law_draw" = some (.ref f))  : Ok P w K mg base 1 "_law_draw" 3 F_law_draw := by
  have nd := sc_law_draw.nd
  exact ok_fn (k := 0) (b := b_law_draw) F sc_law_draw (fun cdv A outer s H E hr => (sv_cons (sv_asg (ev_op o_add (ev_ix ix_w (ev_var (i := 1)) ev_int) ev_int) (gv_ix (ev_var (i := 1)) ev_int))
    (sv_cons (sv_if (tv_cmp (o_eq hr.units) (ev_var (i := 0)) (ev_lst av_nil)) (sv_one (sv_ret (ev_op o_mod (ev_op o_fdiv (ev_op o_mul (ev_op o_mul (ev_ix ix_w (ev_var (i := 1)) ev_int) (ev_ix ix_w (ev_var (i := 1)) ev_int)) ev_int) ev_int) (ev_var (i := 2))))) sv_nil)
    (sv_cons (sv_set (i := 3) nd (ev_op o_mod (ev_ix ix_w (ev_var (i := 1)) ev_int) (ev_cb c_len rfl B.len bb_len (av_cons (ev_var (i := 0)) av_nil))))
    (sv_cons (sv_set (i := 4) nd (ev_ix ix_w (ev_var (i := 1)) (ev_op o_add ev_int (ev_var (i := 3)))))
    (sv_cons (sv_if (PW.pt (wv_and (tv_cmp o_ge (ev_ix ix_w (ev_var (i := 0)) (ev_var (i := 3))) (ev_op o_pow ev_int ev_int)) (wv_and1 (tv_cmp o_gt (ev_var (i := 4)) ev_int)))) (sv_cons (sv_asg (ev_op o_fdiv (ev_var (i := 4)) (ev_var (i := 2))) (gv_ix (ev_var (i := 1)) (ev_op o_add ev_int (ev_var (i := 3)))))
    (sv_one (sv_ret (ev_op o_mod (ev_var (i := 4)) (ev_var (i := 2)))))) sv_nil)
    (sv_cons (sv_set (i := 5) nd (ev_op o_mod (ev_op o_add (ev_ix ix_w (ev_var (i := 0)) (ev_var (i := 3))) (ev_op o_mul ev_int (ev_ix ix_w (ev_var (i := 1)) ev_int))) ev_int))
    (sv_cons (sv_set (i := 5) nd (ev_op o_mod (ev_op o_pow (ev_var (i := 5)) ev_int) ev_int))
    (sv_one (sv_ret (ev_op o_mod (ev_op o_fdiv (ev_op o_mod (ev_op o_add (ev_op o_mul (ev_op o_fdiv (ev_var (i := 5)) ev_int) ev_int) (ev_var (i := 5))) ev_int) ev_int) (ev_var (i := 2))))))))))))) g (fun _ _ _ _ _ _ us hl => match us, hl with | [_, _, _], _ => rfl)
theorem ok_law_pick {f : Addr} {fd : FuncData} (B : Bt mg) (F : Fun K "_law_pick" "_law_pick" s_law_pick f fd) (g : mg "_law_pick" = some (.ref f)) (G_law_draw : Ok P w K mg base 1 "_law_draw" 3 F_law_draw) : Ok P w K mg base 2 "_law_pick" 3 F_law_pick := by
  have nd := sc_law_pick.nd
  exact ok_fn (k := 1) (b := b_law_pick) F sc_law_pick (fun cdv A outer s H E hr => (sv_one (sv_ret (ev_ix ix_w (ev_var (i := 2)) (ev_fn G_law_draw (hr.mono (by decide)) (av_cons (ev_var (i := 0)) (av_cons (ev_var (i := 1)) (av_cons (ev_cb c_len rfl B.len bb_len (av_cons (ev_var (i := 2)) av_nil)) av_nil)))))))) g (fun _ _ _ _ _ _ us hl => match us, hl with | [_, _, _], _ => rfl)
theorem ok_law_outcome {f : Addr} {fd : FuncData} (B : Bt mg) (F : Fun K "_law_outcome" "_law_outcome" s_law_outcome f fd) (g : mg "_law_outcome" = some (.ref f)) {eB : Addr} (T : ExcAll K mg eB) (ZV : mg "ValueError" = none) (GX_law_call : OkX P w K mg base 4 "_law_call" 2 F_law_call_k72) (G_law_name : Ok P w K mg base 1 "_law_name" 1 F_law_name) : Ok P w K mg base 5 "_law_outcome" 2 F_law_outcome_k72 := by
  have nd := sc_law_outcome.nd
  exact ok_fn (k := 4) (b := b_law_outcome_k72) F sc_law_outcome (fun cdv A outer s H E hr => (sv_cons (sv_set (i := 2) nd ev_non)
    (sv_cons (sv_set (i := 3) nd ev_non)
    (sv_cons (sv_try (ir := 3) (i := 4) (j := 2) T nd GX_law_call (hr.mono (by decide)) (fun _ _ => (av_cons (ev_var (i := 0)) (av_cons (ev_var (i := 1)) av_nil))))
    (sv_cons (sv_if (tv_cmp o_is (ev_var (i := 2)) ev_non) (sv_one (sv_ret (ev_tup (av_cons ev_str (av_cons (ev_var (i := 3)) av_nil))))) sv_nil)
    (sv_one (sv_ret (ev_tup (av_cons ev_str (av_cons (ev_fn G_law_name (hr.mono (by decide)) (av_cons (ev_var (i := 2)) av_nil)) av_nil)))))))))) g (fun _ _ _ _ _ _ us hl => match us, hl with | [_, _], _ => rfl)
theorem ok_law_name {f : Addr} {fd : FuncData} (B : Bt mg) (F : Fun K "_law_name" "_law_name" s_law_name f fd) (g : mg "_law_name" = some (.ref f)) {eB : Addr} (T : ExcAll K mg eB) (ZV : mg "ValueError" = none)  : Ok P w K mg base 1 "_law_name" 1 F_law_name := by
  have nd := sc_law_name.nd
  exact ok_fn (k := 0) (b := b_law_name) F sc_law_name (fun cdv A outer s H E hr => (sv_cons (sv_if (tv_not (tv_val (ev_isV T (ev_var (i := 0)) rfl B.isinstance rfl ZV))) (sv_one (sv_ret (ev_un u_neg ev_int))) sv_nil)
    (sv_cons (sv_set (i := 1) nd (ev_lst (av_cons (ev_isX T (by decide) (ev_var (i := 0)) rfl B.isinstance rfl) (av_cons (ev_isX T (by decide) (ev_var (i := 0)) rfl B.isinstance rfl) av_nil))))
    (sv_cons (sv_set (i := 1) nd (ev_op o_add (ev_var (i := 1)) (ev_lst (av_cons (ev_isX T (by decide) (ev_var (i := 0)) rfl B.isinstance rfl) (av_cons (ev_isX T (by decide) (ev_var (i := 0)) rfl B.isinstance rfl) av_nil)))))
    (sv_cons (sv_set (i := 1) nd (ev_op o_add (ev_var (i := 1)) (ev_lst (av_cons (ev_isX T (by decide) (ev_var (i := 0)) rfl B.isinstance rfl) (av_cons (ev_isX T (by decide) (ev_var (i := 0)) rfl B.isinstance rfl) av_nil)))))
    (sv_cons (sv_set (i := 1) nd (ev_op o_add (ev_var (i := 1)) (ev_lst (av_cons (ev_isX T (by decide) (ev_var (i := 0)) rfl B.isinstance rfl) (av_cons (ev_isX T (by decide) (ev_var (i := 0)) rfl B.isinstance rfl) av_nil)))))
    (sv_cons (sv_set (i := 1) nd (ev_op o_add (ev_var (i := 1)) (ev_lst (av_cons (ev_isX T (by decide) (ev_var (i := 0)) rfl B.isinstance rfl) (av_cons (ev_isX T (by decide) (ev_var (i := 0)) rfl B.isinstance rfl) av_nil)))))
    (sv_cons (sv_set (i := 1) nd (ev_op o_add (ev_var (i := 1)) (ev_lst (av_cons (ev_isX T (by decide) (ev_var (i := 0)) rfl B.isinstance rfl) av_nil))))
    (sv_one (sv_ret (ev_if (tv_cmp (o_eq hr.units) (ev_lm PySem.F.slot_list_count PySem.F.type_list_count (mt_cntD (units65 hr)) cnt_ok (ev_var (i := 1)) (av_cons ev_bl av_nil)) ev_int) (ev_lm PySem.F.slot_list_index PySem.F.type_list_index (mt_indexD (units65 hr)) idx_ok (ev_var (i := 1)) (av_cons ev_bl av_nil)) (ev_un u_neg ev_int)))))))))))) g (fun _ _ _ _ _ _ us hl => match us, hl with | [_], _ => rfl)
theorem ok_law_raises {f : Addr} {fd : FuncData} (B : Bt mg) (F : Fun K "_law_raises" "_law_raises" s_law_raises f fd) (g : mg "_law_raises" = some (.ref f))  : Ok P w K mg base 1 "_law_raises" 1 F_law_raises := by
  have nd := sc_law_raises.nd
  exact ok_fn (k := 0) (b := b_law_raises) F sc_law_raises (fun cdv A outer s H E hr => (sv_cons (sv_set (i := 1) nd (ev_lst (av_cons ev_str (av_cons ev_str (av_cons ev_str (av_cons ev_str (av_cons ev_str (av_cons ev_str (av_cons ev_str av_nil)))))))))
    (sv_cons (sv_set (i := 1) nd (ev_op o_add (ev_var (i := 1)) (ev_lst (av_cons ev_str (av_cons ev_str (av_cons ev_str (av_cons ev_str av_nil)))))))
    (sv_one (sv_ret (ev_tup (av_cons ev_str (av_cons (ev_lm PySem.F.slot_list_index PySem.F.type_list_index (mt_indexD (units65 hr)) idx_ok (ev_var (i := 1)) (av_cons (ev_var (i := 0)) av_nil)) av_nil)))))))) g (fun _ _ _ _ _ _ us hl => match us, hl with | [_], _ => rfl)
theorem ok_law_closes {f : Addr} {fd : FuncData} (B : Bt mg) (F : Fun K "_law_closes" "_law_closes" s_law_closes f fd) (g : mg "_law_closes" = some (.ref f))  : Ok P w K mg base 1 "_law_closes" 1 F_law_closes := by
  have nd := sc_law_closes.nd
  exact ok_fn (k := 0) (b := b_law_closes) F sc_law_closes (fun cdv A outer s H E hr => (sv_one (sv_ret (ev_cmp (o_eq hr.units) (ev_cb c_len rfl B.len bb_len (av_cons (ev_lc (own := [("one", 1)]) rfl nd (iv_seq (ev_var (i := 0))) (blkOk_by (own := [("one", 1)]) (N := N_law_closes) (sc := defScope s_law_closes) (by decide +kernel)) (fun _ _ _ _ _ => (gw_nm (i := 1) nd)) (fun _ _ _ _ _ => (tsv_one (tv_cmp o_ge (ev_var (i := 1)) (ev_op o_sub (ev_cb (c_sum rfl) rfl B.sum bb_sum (av_cons (ev_var (i := 0)) av_nil)) (ev_var (i := 1)))))) (fun _ _ _ _ _ => (ev_var (i := 1)))) av_nil)) ev_int)))) g (fun _ _ _ _ _ _ us hl => match us, hl with | [_], _ => rfl)
theorem ok_law_ring {f : Addr} {fd : FuncData} (B : Bt mg) (F : Fun K "_law_ring" "_law_ring" s_law_ring f fd) (g : mg "_law_ring" = some (.ref f)) (G_law_draw : Ok P w K mg base 1 "_law_draw" 3 F_law_draw) (G_law_closes : Ok P w K mg base 1 "_law_closes" 1 F_law_closes) : Ok P w K mg base 2 "_law_ring" 3 F_law_ring := by
  have nd := sc_law_ring.nd
  exact ok_fn (k := 1) (b := b_law_ring) F sc_law_ring (fun cdv A outer s H E hr => (sv_cons (sv_asg (ev_lc (own := [("k", 10)]) rfl nd (iv_rg rfl B.range (av_cons ev_int av_nil)) (blkOk_by (own := [("k", 10)]) (N := N_law_ring) (sc := defScope s_law_ring) (by decide +kernel)) (fun _ _ _ _ _ => (gw_nm (i := 10) nd)) (fun _ _ _ _ _ => tsv_nil) (fun _ _ _ _ _ => (ev_op o_add ev_int (ev_fn G_law_draw (hr.mono (by decide)) (av_cons (ev_var (i := 0)) (av_cons (ev_var (i := 1)) (av_cons (ev_var (i := 2)) av_nil))))))) (gv_ul rfl (gvs_cons (gv_nm (i := 3) nd) (gvs_cons (gv_nm (i := 4) nd) (gvs_cons (gv_nm (i := 5) nd) gvs_nil)))))
    (sv_cons (sv_set (i := 6) nd (ev_fn G_law_draw (hr.mono (by decide)) (av_cons (ev_var (i := 0)) (av_cons (ev_var (i := 1)) (av_cons ev_int av_nil)))))
    (sv_cons (sv_if (tv_cmp (o_eq hr.units) (ev_var (i := 6)) ev_int) (sv_one (sv_set (i := 7) nd (ev_tup (av_cons (ev_var (i := 3)) (av_cons (ev_var (i := 4)) (av_cons (ev_var (i := 3)) (av_cons (ev_var (i := 4)) av_nil))))))) (sv_one (sv_if (tv_cmp (o_eq hr.units) (ev_var (i := 6)) ev_int) (sv_one (sv_set (i := 7) nd (ev_tup (av_cons (ev_var (i := 3)) (av_cons (ev_var (i := 3)) (av_cons (ev_var (i := 4)) (av_cons (ev_var (i := 4)) av_nil))))))) (sv_one (sv_if (tv_cmp (o_eq hr.units) (ev_var (i := 6)) ev_int) (sv_one (sv_set (i := 7) nd (ev_tup (av_cons (ev_var (i := 3)) (av_cons (ev_var (i := 4)) (av_cons (ev_var (i := 5)) (av_cons (ev_cb (c_max rfl hr.units) rfl B.max bb_max (av_cons ev_int (av_cons (ev_op o_sub (ev_op o_add (ev_var (i := 3)) (ev_var (i := 4))) (ev_var (i := 5))) av_nil))) av_nil))))))) (sv_one (sv_set (i := 7) nd (ev_tup (av_cons (ev_var (i := 3)) (av_cons (ev_var (i := 4)) (av_cons (ev_var (i := 5)) (av_cons (ev_op o_add ev_int (ev_fn G_law_draw (hr.mono (by decide)) (av_cons (ev_var (i := 0)) (av_cons (ev_var (i := 1)) (av_cons (ev_var (i := 2)) av_nil))))) av_nil))))))))))))
    (sv_cons (sv_set (i := 7) nd (ev_ct c_tuple rfl B.tuple bb_tuple (av_cons (ev_lc (own := [("one", 11)]) rfl nd (iv_seq (ev_var (i := 7))) (blkOk_by (own := [("one", 11)]) (N := N_law_ring) (sc := defScope s_law_ring) (by decide +kernel)) (fun _ _ _ _ _ => (gw_nm (i := 11) nd)) (fun _ _ _ _ _ => tsv_nil) (fun _ _ _ _ _ => (ev_cb (c_min rfl hr.units) rfl B.min bb_min (av_cons ev_int (av_cons (ev_var (i := 11)) av_nil))))) av_nil)))
    (sv_cons (sv_if (tv_not (tv_val (ev_fn G_law_closes (hr.mono (by decide)) (av_cons (ev_var (i := 7)) av_nil)))) (sv_cons (sv_set (i := 8) nd (ev_ix ix_w (ev_cb c_sorted rfl B.sorted bb_sorted (av_cons (ev_var (i := 7)) av_nil)) ev_int))
    (sv_one (sv_set (i := 7) nd (ev_ct c_tuple rfl B.tuple bb_tuple (av_cons (ev_lc (own := [("one", 11)]) rfl nd (iv_seq (ev_var (i := 7))) (blkOk_by (own := [("one", 11)]) (N := N_law_ring) (sc := defScope s_law_ring) (by decide +kernel)) (fun _ _ _ _ _ => (gw_nm (i := 11) nd)) (fun _ _ _ _ _ => tsv_nil) (fun _ _ _ _ _ => (ev_cb (c_min rfl hr.units) rfl B.min bb_min (av_cons (ev_var (i := 11)) (av_cons (ev_var (i := 8)) av_nil))))) av_nil))))) sv_nil)
    (sv_cons (sv_set (i := 9) nd (ev_fn G_law_draw (hr.mono (by decide)) (av_cons (ev_var (i := 0)) (av_cons (ev_var (i := 1)) (av_cons ev_int av_nil)))))
    (sv_one (sv_ret (ev_op o_add (ev_sl (ev_var (i := 7)) (ov_some (ev_var (i := 9))) ov_none) (ev_sl (ev_var (i := 7)) ov_none (ov_some (ev_var (i := 9)))))))))))))) g (fun _ _ _ _ _ _ us hl => match us, hl with | [_, _, _], _ => rfl)
theorem okX_law_call {f : Addr} {fd : FuncData} (B : Bt mg) (F : Fun K "_law_call" "_law_call" s_law_call f fd) (g : mg "_law_call" = some (.ref f)) (GX_parse_ring : OkX P w K mg base 3 "parse_ring" 1 F_parse_ring) : OkX P w K mg base 4 "_law_call" 2 F_law_call_k72 := by
  have nd := sc_law_call.nd
  exact okX_fn (k := 3) (b := b_law_call_k72) F sc_law_call (fun cdv A outer s H E hr tk => (sv_one (sv_ret (ev_fnX tk GX_parse_ring (hr.mono (by decide)) (av_cons (ev_var (i := 1)) av_nil))))) g (fun _ _ _ _ _ _ us hl => match us, hl with | [_, _], _ => rfl)
theorem ok_law {f : Addr} {fd : FuncData} (B : Bt mg) (F : Fun K "law" "law" s_law f fd) (G_law_town : Ok P w K mg base 1 "_law_town" 1 F_law_town) (G_law_ring : Ok P w K mg base 2 "_law_ring" 3 F_law_ring) (G_law_pick : Ok P w K mg base 2 "_law_pick" 3 F_law_pick) (G_format_ring : Ok P w K mg base 4 "format_ring" 1 F_format_ring) (G_law_outcome : Ok P w K mg base 5 "_law_outcome" 2 F_law_outcome_k72) (G_law_draw : Ok P w K mg base 1 "_law_draw" 3 F_law_draw) (G_law_closes : Ok P w K mg base 1 "_law_closes" 1 F_law_closes) (G_law_raises : Ok P w K mg base 1 "_law_raises" 1 F_law_raises) : FnOk P w K mg base CX0 6 f fd ["script"] (spF K EE0 1 F_law_k72) := by
  have nd := sc_law.nd
  exact fnok_fn (k := 5) (b := b_law_k72) F sc_law (fun cdv A outer s H E hr => (sv_seal (sv_cons (sv_set (i := 1) nd (ev_fn G_law_town (hr.mono (by decide)) (av_cons (ev_var (i := 0)) av_nil)))
    (sv_seal (sv_cons (sv_set (i := 2) nd (ev_fn G_law_ring (hr.mono (by decide)) (av_cons (ev_var (i := 0)) (av_cons (ev_var (i := 1)) (av_cons (ev_fn G_law_pick (hr.mono (by decide)) (av_cons (ev_var (i := 0)) (av_cons (ev_var (i := 1)) (av_cons (ev_lst (av_cons ev_int (av_cons ev_int (av_cons ev_int av_nil)))) av_nil)))) av_nil)))))
    (sv_seal (sv_cons (sv_set (i := 3) nd (ev_join ev_str (ev_lc (own := [("one", 13)]) rfl nd (iv_seq (ev_var (i := 2))) (blkOk_by (own := [("one", 13)]) (N := N_law) (sc := defScope s_law) (by decide +kernel)) (fun _ _ _ _ _ => (gw_nm (i := 13) nd)) (fun _ _ _ _ _ => tsv_nil) (fun _ _ _ _ _ => (ev_ct c_str rfl B.str bb_str (av_cons (ev_var (i := 13)) av_nil))))))
    (sv_seal (sv_cons (sv_if (PW.pt (wv_or (tv_cmp (o_ne hr.units) (ev_fn G_format_ring (hr.mono (by decide)) (av_cons (ev_var (i := 2)) av_nil)) (ev_var (i := 3))) (wv_or1 (tv_cmp (o_ne hr.units) (ev_fn G_law_outcome (hr.mono (by decide)) (av_cons ev_int (av_cons (ev_var (i := 3)) av_nil))) (ev_tup (av_cons ev_str (av_cons (ev_var (i := 2)) av_nil))))))) (sv_one (sv_ret ev_bl)) sv_nil)
    (sv_seal (sv_cons (sv_set (i := 4) nd (ev_ct (c_dict rfl) rfl B.dict bb_dict (av_cons (ev_lc (own := [("one", 13)]) rfl nd (iv_rg2 rfl B.range (av_cons ev_int (av_cons ev_int av_nil))) (blkOk_by (own := [("one", 13)]) (N := N_law) (sc := defScope s_law) (by decide +kernel)) (fun _ _ _ _ _ => (gw_nm (i := 13) nd)) (fun _ _ _ _ _ => tsv_nil) (fun _ _ _ _ _ => (ev_tup (av_cons (ev_ct c_str rfl B.str bb_str (av_cons (ev_var (i := 13)) av_nil)) (av_cons (ev_var (i := 13)) av_nil))))) av_nil)))
    (sv_seal (sv_cons (sv_for PassesOwn.never rfl (iv_rg rfl B.range (av_cons ev_int av_nil)) (gv_nm (i := 5) nd) (sv_seal (sv_cons (sv_set (i := 6) nd (ev_fn G_law_draw (hr.mono (by decide)) (av_cons (ev_var (i := 0)) (av_cons (ev_var (i := 1)) (av_cons (ev_op o_add (ev_cb c_len rfl B.len bb_len (av_cons (ev_var (i := 3)) av_nil)) ev_int) av_nil)))))
    (sv_seal (sv_cons (sv_set (i := 7) nd (ev_fn G_law_pick (hr.mono (by decide)) (av_cons (ev_var (i := 0)) (av_cons (ev_var (i := 1)) (av_cons (ev_op o_add (ev_ct (c_listS rfl) rfl B.list bb_list (av_cons ev_str av_nil)) (ev_lst (av_cons ev_str av_nil))) av_nil)))))
    (sv_seal (sv_cons (sv_set (i := 8) nd (ev_op o_add (ev_op o_add (ev_sl (ev_var (i := 3)) ov_none (ov_some (ev_var (i := 6)))) (ev_var (i := 7))) (ev_sl (ev_var (i := 3)) (ov_some (ev_op o_add (ev_var (i := 6)) (ev_fn G_law_draw (hr.mono (by decide)) (av_cons (ev_var (i := 0)) (av_cons (ev_var (i := 1)) (av_cons ev_int av_nil)))))) ov_none)))
    (sv_seal (sv_cons (sv_set (i := 9) nd (ev_ct c_tuple rfl B.tuple bb_tuple (av_cons (ev_lc (own := [("word", 14)]) rfl nd (iv_seq (ev_split (ev_var (i := 8)) ev_str)) (blkOk_by (own := [("word", 14)]) (N := N_law) (sc := defScope s_law) (by decide +kernel)) (fun _ _ _ _ _ => (gw_nm (i := 14) nd)) (fun _ _ _ _ _ => tsv_nil) (fun _ _ _ _ _ => (ev_get (units1 hr) (ev_var (i := 4)) (ev_var (i := 14)) ev_int))) av_nil)))
    (sv_seal (sv_cons (sv_set (i := 10) nd (ev_and (ev_cmp (o_eq hr.units) (ev_cb c_len rfl B.len bb_len (av_cons (ev_var (i := 9)) av_nil)) ev_int) (ev_and (ev_cmp o_gt (ev_cb (c_min rfl hr.units) rfl B.min bb_min (av_cons (ev_var (i := 9)) av_nil)) ev_int) (ev_one (ev_fn G_law_closes (hr.mono (by decide)) (av_cons (ev_var (i := 9)) av_nil))))))
    (sv_seal (sv_cons (sv_set (i := 11) nd (ev_if (tv_val (ev_var (i := 10))) (ev_tup (av_cons ev_str (av_cons (ev_var (i := 9)) av_nil))) (ev_fn G_law_raises (hr.mono (by decide)) (av_cons ev_str av_nil))))
    (sv_one (sv_if (tv_cmp (o_ne hr.units) (ev_fn G_law_outcome (hr.mono (by decide)) (av_cons ev_int (av_cons (ev_var (i := 8)) av_nil))) (ev_var (i := 11))) (sv_one (sv_ret ev_bl)) sv_nil)))))))))))))))
    (sv_seal (sv_cons (sv_set (i := 12) nd (ev_lst (av_cons ev_non (av_cons ev_int (av_cons ev_str (av_cons ev_str (av_cons ev_str (av_cons ev_str (av_cons ev_str (av_cons ev_str (av_cons ev_str (av_cons ev_str (av_cons ev_str (av_cons ev_str av_nil))))))))))))))
    (sv_seal (sv_cons (sv_set (i := 12) nd (ev_op o_add (ev_var (i := 12)) (ev_lst (av_cons ev_str (av_cons ev_str (av_cons ev_str (av_cons ev_str (av_cons ev_str (av_cons ev_str (av_cons (ev_var (i := 2)) (av_cons (ev_lst (av_cons (ev_var (i := 3)) av_nil)) (av_cons ev_bl (av_cons ev_str av_nil)))))))))))))
    (sv_seal (sv_cons (sv_if (tv_cmp (o_ne hr.units) (ev_lc (own := [("bad", 15)]) rfl nd (iv_seq (ev_var (i := 12))) (blkOk_by (own := [("bad", 15)]) (N := N_law) (sc := defScope s_law) (by decide +kernel)) (fun _ _ _ _ _ => (gw_nm (i := 15) nd)) (fun _ _ _ _ _ => (tsv_one (tv_cmp (o_ne hr.units) (ev_fn G_law_outcome (hr.mono (by decide)) (av_cons ev_int (av_cons (ev_var (i := 15)) av_nil))) (ev_fn G_law_raises (hr.mono (by decide)) (av_cons ev_str av_nil))))) (fun _ _ _ _ _ => (ev_var (i := 15)))) (ev_lst av_nil)) (sv_one (sv_ret ev_bl)) sv_nil)
    (sv_one (sv_ret (ev_cmp (o_eq hr.units) (ev_fn G_law_outcome (hr.mono (by decide)) (av_cons ev_int (av_cons ev_str av_nil))) (ev_tup (av_cons ev_str (av_cons (ev_tup (av_cons ev_int (av_cons ev_int (av_cons ev_int (av_cons ev_int av_nil))))) av_nil)))))))))))))))))))))))))
end
theorem all_mk {l : PySem.W.OpenLaw} {w : World} {K : PySem.W.Frag} {h : Heap} {mg : Str → Option Value} {fa : Addr} (X : K.In h) (G : h.Ns mainGlobals mg) (hfa : mg "law" = some (.ref fa))
    {f0 : Addr} {od0 an0 : Option Addr} {sl0 : Array (Option Value)} {oc0 kV0 dc0 pm0 cd0 ct0 : Value}
    {f1 : Addr} {od1 an1 : Option Addr} {sl1 : Array (Option Value)} {oc1 kV1 dc1 pm1 cd1 ct1 : Value}
    {f2 : Addr} {od2 an2 : Option Addr} {sl2 : Array (Option Value)} {oc2 kV2 dc2 pm2 cd2 ct2 : Value}
    {f3 : Addr} {od3 an3 : Option Addr} {sl3 : Array (Option Value)} {oc3 kV3 dc3 pm3 cd3 ct3 : Value}
    {f4 : Addr} {od4 an4 : Option Addr} {sl4 : Array (Option Value)} {oc4 kV4 dc4 pm4 cd4 ct4 : Value}
    {f5 : Addr} {od5 an5 : Option Addr} {sl5 : Array (Option Value)} {oc5 kV5 dc5 pm5 cd5 ct5 : Value}
    {f6 : Addr} {od6 an6 : Option Addr} {sl6 : Array (Option Value)} {oc6 kV6 dc6 pm6 cd6 ct6 : Value}
    {f7 : Addr} {od7 an7 : Option Addr} {sl7 : Array (Option Value)} {oc7 kV7 dc7 pm7 cd7 ct7 : Value}
    {f8 : Addr} {od8 an8 : Option Addr} {sl8 : Array (Option Value)} {oc8 kV8 dc8 pm8 cd8 ct8 : Value}
    {f9 : Addr} {od9 an9 : Option Addr} {sl9 : Array (Option Value)} {oc9 kV9 dc9 pm9 cd9 ct9 : Value}
    {f10 : Addr} {od10 an10 : Option Addr} {sl10 : Array (Option Value)} {oc10 kV10 dc10 pm10 cd10 ct10 : Value}
    {f11 : Addr} {od11 an11 : Option Addr} {sl11 : Array (Option Value)} {oc11 kV11 dc11 pm11 cd11 ct11 : Value}
    {f12 : Addr} {od12 an12 : Option Addr} {sl12 : Array (Option Value)} {oc12 kV12 dc12 pm12 cd12 ct12 : Value}
    {f13 : Addr} {od13 an13 : Option Addr} {sl13 : Array (Option Value)} {oc13 kV13 dc13 pm13 cd13 ct13 : Value}
    {f14 : Addr} {od14 an14 : Option Addr} {sl14 : Array (Option Value)} {oc14 kV14 dc14 pm14 cd14 ct14 : Value}
    {f15 : Addr} {od15 an15 : Option Addr} {sl15 : Array (Option Value)} {oc15 kV15 dc15 pm15 cd15 ct15 : Value}
    {f16 : Addr} {od16 an16 : Option Addr} {sl16 : Array (Option Value)} {oc16 kV16 dc16 pm16 cd16 ct16 : Value}
    {f17 : Addr} {od17 an17 : Option Addr} {sl17 : Array (Option Value)} {oc17 kV17 dc17 pm17 cd17 ct17 : Value}
    (a0 : PySem.W.nsIn K mainGlobals "is_between" = some (some (.ref f0))) (l0 : K.lookup f0 = some ⟨oc0, od0, .func (PySem.W.fnOf "is_between" "is_between" (defArgs s_is_between) (defBody s_is_between) (defScope s_is_between) .none kV0 dc0 pm0 an0 cd0 ct0), sl0⟩) (c0 : PySem.W.codeIn K cd0 "is_between" = true) (k0 : PySem.W.keepIn K (.ref f0) = true)
    (a1 : PySem.W.nsIn K mainGlobals "does_close" = some (some (.ref f1))) (l1 : K.lookup f1 = some ⟨oc1, od1, .func (PySem.W.fnOf "does_close" "does_close" (defArgs s_does_close) (defBody s_does_close) (defScope s_does_close) .none kV1 dc1 pm1 an1 cd1 ct1), sl1⟩) (c1 : PySem.W.codeIn K cd1 "does_close" = true) (k1 : PySem.W.keepIn K (.ref f1) = true)
    (a2 : PySem.W.nsIn K mainGlobals "is_ring" = some (some (.ref f2))) (l2 : K.lookup f2 = some ⟨oc2, od2, .func (PySem.W.fnOf "is_ring" "is_ring" (defArgs s_is_ring) (defBody s_is_ring) (defScope s_is_ring) .none kV2 dc2 pm2 an2 cd2 ct2), sl2⟩) (c2 : PySem.W.codeIn K cd2 "is_ring" = true) (k2 : PySem.W.keepIn K (.ref f2) = true)
    (a3 : PySem.W.nsIn K mainGlobals "check_ring" = some (some (.ref f3))) (l3 : K.lookup f3 = some ⟨oc3, od3, .func (PySem.W.fnOf "check_ring" "check_ring" (defArgs s_check_ring) (defBody s_check_ring) (defScope s_check_ring) .none kV3 dc3 pm3 an3 cd3 ct3), sl3⟩) (c3 : PySem.W.codeIn K cd3 "check_ring" = true) (k3 : PySem.W.keepIn K (.ref f3) = true)
    (a4 : PySem.W.nsIn K mainGlobals "ring_text" = some (some (.ref f4))) (l4 : K.lookup f4 = some ⟨oc4, od4, .func (PySem.W.fnOf "ring_text" "ring_text" (defArgs s_ring_text) (defBody s_ring_text) (defScope s_ring_text) .none kV4 dc4 pm4 an4 cd4 ct4), sl4⟩) (c4 : PySem.W.codeIn K cd4 "ring_text" = true) (k4 : PySem.W.keepIn K (.ref f4) = true)
    (a5 : PySem.W.nsIn K mainGlobals "format_ring" = some (some (.ref f5))) (l5 : K.lookup f5 = some ⟨oc5, od5, .func (PySem.W.fnOf "format_ring" "format_ring" (defArgs s_format_ring) (defBody s_format_ring) (defScope s_format_ring) .none kV5 dc5 pm5 an5 cd5 ct5), sl5⟩) (c5 : PySem.W.codeIn K cd5 "format_ring" = true) (k5 : PySem.W.keepIn K (.ref f5) = true)
    (a6 : PySem.W.nsIn K mainGlobals "length_of" = some (some (.ref f6))) (l6 : K.lookup f6 = some ⟨oc6, od6, .func (PySem.W.fnOf "length_of" "length_of" (defArgs s_length_of) (defBody s_length_of) (defScope s_length_of) .none kV6 dc6 pm6 an6 cd6 ct6), sl6⟩) (c6 : PySem.W.codeIn K cd6 "length_of" = true) (k6 : PySem.W.keepIn K (.ref f6) = true)
    (a7 : PySem.W.nsIn K mainGlobals "parse_ring" = some (some (.ref f7))) (l7 : K.lookup f7 = some ⟨oc7, od7, .func (PySem.W.fnOf "parse_ring" "parse_ring" (defArgs s_parse_ring) (defBody s_parse_ring) (defScope s_parse_ring) .none kV7 dc7 pm7 an7 cd7 ct7), sl7⟩) (c7 : PySem.W.codeIn K cd7 "parse_ring" = true) (k7 : PySem.W.keepIn K (.ref f7) = true)
    (a8 : PySem.W.nsIn K mainGlobals "_law_town" = some (some (.ref f8))) (l8 : K.lookup f8 = some ⟨oc8, od8, .func (PySem.W.fnOf "_law_town" "_law_town" (defArgs s_law_town) (defBody s_law_town) (defScope s_law_town) .none kV8 dc8 pm8 an8 cd8 ct8), sl8⟩) (c8 : PySem.W.codeIn K cd8 "_law_town" = true) (k8 : PySem.W.keepIn K (.ref f8) = true)
    (a9 : PySem.W.nsIn K mainGlobals "_law_draw" = some (some (.ref f9))) (l9 : K.lookup f9 = some ⟨oc9, od9, .func (PySem.W.fnOf "_law_draw" "_law_draw" (defArgs s_law_draw) (defBody s_law_draw) (defScope s_law_draw) .none kV9 dc9 pm9 an9 cd9 ct9), sl9⟩) (c9 : PySem.W.codeIn K cd9 "_law_draw" = true) (k9 : PySem.W.keepIn K (.ref f9) = true)
    (a10 : PySem.W.nsIn K mainGlobals "_law_pick" = some (some (.ref f10))) (l10 : K.lookup f10 = some ⟨oc10, od10, .func (PySem.W.fnOf "_law_pick" "_law_pick" (defArgs s_law_pick) (defBody s_law_pick) (defScope s_law_pick) .none kV10 dc10 pm10 an10 cd10 ct10), sl10⟩) (c10 : PySem.W.codeIn K cd10 "_law_pick" = true) (k10 : PySem.W.keepIn K (.ref f10) = true)
    (a11 : PySem.W.nsIn K mainGlobals "_law_outcome" = some (some (.ref f11))) (l11 : K.lookup f11 = some ⟨oc11, od11, .func (PySem.W.fnOf "_law_outcome" "_law_outcome" (defArgs s_law_outcome) (defBody s_law_outcome) (defScope s_law_outcome) .none kV11 dc11 pm11 an11 cd11 ct11), sl11⟩) (c11 : PySem.W.codeIn K cd11 "_law_outcome" = true) (k11 : PySem.W.keepIn K (.ref f11) = true)
    (a12 : PySem.W.nsIn K mainGlobals "_law_name" = some (some (.ref f12))) (l12 : K.lookup f12 = some ⟨oc12, od12, .func (PySem.W.fnOf "_law_name" "_law_name" (defArgs s_law_name) (defBody s_law_name) (defScope s_law_name) .none kV12 dc12 pm12 an12 cd12 ct12), sl12⟩) (c12 : PySem.W.codeIn K cd12 "_law_name" = true) (k12 : PySem.W.keepIn K (.ref f12) = true)
    (a13 : PySem.W.nsIn K mainGlobals "_law_raises" = some (some (.ref f13))) (l13 : K.lookup f13 = some ⟨oc13, od13, .func (PySem.W.fnOf "_law_raises" "_law_raises" (defArgs s_law_raises) (defBody s_law_raises) (defScope s_law_raises) .none kV13 dc13 pm13 an13 cd13 ct13), sl13⟩) (c13 : PySem.W.codeIn K cd13 "_law_raises" = true) (k13 : PySem.W.keepIn K (.ref f13) = true)
    (a14 : PySem.W.nsIn K mainGlobals "_law_closes" = some (some (.ref f14))) (l14 : K.lookup f14 = some ⟨oc14, od14, .func (PySem.W.fnOf "_law_closes" "_law_closes" (defArgs s_law_closes) (defBody s_law_closes) (defScope s_law_closes) .none kV14 dc14 pm14 an14 cd14 ct14), sl14⟩) (c14 : PySem.W.codeIn K cd14 "_law_closes" = true) (k14 : PySem.W.keepIn K (.ref f14) = true)
    (a15 : PySem.W.nsIn K mainGlobals "_law_ring" = some (some (.ref f15))) (l15 : K.lookup f15 = some ⟨oc15, od15, .func (PySem.W.fnOf "_law_ring" "_law_ring" (defArgs s_law_ring) (defBody s_law_ring) (defScope s_law_ring) .none kV15 dc15 pm15 an15 cd15 ct15), sl15⟩) (c15 : PySem.W.codeIn K cd15 "_law_ring" = true) (k15 : PySem.W.keepIn K (.ref f15) = true)
    (a16 : PySem.W.nsIn K mainGlobals "_law_call" = some (some (.ref f16))) (l16 : K.lookup f16 = some ⟨oc16, od16, .func (PySem.W.fnOf "_law_call" "_law_call" (defArgs s_law_call) (defBody s_law_call) (defScope s_law_call) .none kV16 dc16 pm16 an16 cd16 ct16), sl16⟩) (c16 : PySem.W.codeIn K cd16 "_law_call" = true) (k16 : PySem.W.keepIn K (.ref f16) = true)
    (a17 : PySem.W.nsIn K mainGlobals "law" = some (some (.ref f17))) (l17 : K.lookup f17 = some ⟨oc17, od17, .func (PySem.W.fnOf "law" "law" (defArgs s_law) (defBody s_law) (defScope s_law) .none kV17 dc17 pm17 an17 cd17 ct17), sl17⟩) (c17 : PySem.W.codeIn K cd17 "law" = true) (k17 : PySem.W.keepIn K (.ref f17) = true)
    {eB : Addr} (xB : PySem.W.nsIn K mainGlobals "BarError" = some (some (.ref eB))) (bB : PySem.W.subIn K (.ref eB) (.type "BaseException") = some true) (dB : PySem.W.hasDictIn K eB = true) (tB : PySem.W.typeIn K (.ref eB) = some (.type "type")) (z_ValueError : PySem.W.nsIn K mainGlobals "ValueError" = some none)
    (xo : PySem.W.specialIn K (.builtin "object.__class__") "__get__" = some (some (.builtin "getset_descriptor.__get__"))) (xp : PySem.W.takesIn K (.builtin "object.__class__") = some true)
    {e0 : Addr} (xn0 : PySem.W.nsIn K mainGlobals "InvalidRing" = some (some (.ref e0))) (xi0 : PySem.W.excIn K e0 [.type "ValueError", .type "Exception", .type "BaseException", .type "object"] "ValueError.__new__" = true) (xk0 : PySem.W.keepIn K (.ref e0) = true) (xb0 : PySem.W.subIn K (.ref e0) (.type "BaseException") = some true) (xv0 : PySem.W.subIn K (.ref e0) (.type "ValueError") = some true) (xt0 : PySem.W.typeIn K (.ref e0) = some (.type "type")) (xr0 : PySem.W.subIn K (.ref e0) (.ref eB) = some true) (xs0 : PySem.W.subIn K (.ref e0) (.ref e0) = some true) (xg0 : PySem.W.findIn K (.ref e0) "__getattribute__" = some (some (.builtin "BaseException.__getattribute__"))) (xh0 : PySem.W.findIn K (.ref e0) "__getattr__" = some none) (xd0 : PySem.W.hasDictIn K e0 = true) (xa0 : PySem.W.findIn K (.ref e0) "__class__" = some (some (.builtin "object.__class__"))) (xm0 : PySem.W.mroIn K e0 (.type "object") = some true)
    {e1 : Addr} (xn1 : PySem.W.nsIn K mainGlobals "InvalidNumber" = some (some (.ref e1))) (xi1 : PySem.W.excIn K e1 [.type "ValueError", .type "Exception", .type "BaseException", .type "object"] "ValueError.__new__" = true) (xk1 : PySem.W.keepIn K (.ref e1) = true) (xb1 : PySem.W.subIn K (.ref e1) (.type "BaseException") = some true) (xv1 : PySem.W.subIn K (.ref e1) (.type "ValueError") = some true) (xt1 : PySem.W.typeIn K (.ref e1) = some (.type "type")) (xr1 : PySem.W.subIn K (.ref e1) (.ref eB) = some true) (xs1 : PySem.W.subIn K (.ref e1) (.ref e1) = some true) (xg1 : PySem.W.findIn K (.ref e1) "__getattribute__" = some (some (.builtin "BaseException.__getattribute__"))) (xh1 : PySem.W.findIn K (.ref e1) "__getattr__" = some none) (xd1 : PySem.W.hasDictIn K e1 = true) (xa1 : PySem.W.findIn K (.ref e1) "__class__" = some (some (.builtin "object.__class__"))) (xm1 : PySem.W.mroIn K e1 (.type "object") = some true)
    {e2 : Addr} (xn2 : PySem.W.nsIn K mainGlobals "InvalidKind" = some (some (.ref e2))) (xi2 : PySem.W.excIn K e2 [.type "ValueError", .type "Exception", .type "BaseException", .type "object"] "ValueError.__new__" = true) (xk2 : PySem.W.keepIn K (.ref e2) = true) (xb2 : PySem.W.subIn K (.ref e2) (.type "BaseException") = some true) (xv2 : PySem.W.subIn K (.ref e2) (.type "ValueError") = some true) (xt2 : PySem.W.typeIn K (.ref e2) = some (.type "type")) (xr2 : PySem.W.subIn K (.ref e2) (.ref eB) = some true) (xs2 : PySem.W.subIn K (.ref e2) (.ref e2) = some true) (xg2 : PySem.W.findIn K (.ref e2) "__getattribute__" = some (some (.builtin "BaseException.__getattribute__"))) (xh2 : PySem.W.findIn K (.ref e2) "__getattr__" = some none) (xd2 : PySem.W.hasDictIn K e2 = true) (xa2 : PySem.W.findIn K (.ref e2) "__class__" = some (some (.builtin "object.__class__"))) (xm2 : PySem.W.mroIn K e2 (.type "object") = some true)
    {e3 : Addr} (xn3 : PySem.W.nsIn K mainGlobals "InvalidLength" = some (some (.ref e3))) (xi3 : PySem.W.excIn K e3 [.type "ValueError", .type "Exception", .type "BaseException", .type "object"] "ValueError.__new__" = true) (xk3 : PySem.W.keepIn K (.ref e3) = true) (xb3 : PySem.W.subIn K (.ref e3) (.type "BaseException") = some true) (xv3 : PySem.W.subIn K (.ref e3) (.type "ValueError") = some true) (xt3 : PySem.W.typeIn K (.ref e3) = some (.type "type")) (xr3 : PySem.W.subIn K (.ref e3) (.ref eB) = some true) (xs3 : PySem.W.subIn K (.ref e3) (.ref e3) = some true) (xg3 : PySem.W.findIn K (.ref e3) "__getattribute__" = some (some (.builtin "BaseException.__getattribute__"))) (xh3 : PySem.W.findIn K (.ref e3) "__getattr__" = some none) (xd3 : PySem.W.hasDictIn K e3 = true) (xa3 : PySem.W.findIn K (.ref e3) "__class__" = some (some (.builtin "object.__class__"))) (xm3 : PySem.W.mroIn K e3 (.type "object") = some true)
    {e4 : Addr} (xn4 : PySem.W.nsIn K mainGlobals "InvalidPerimeter" = some (some (.ref e4))) (xi4 : PySem.W.excIn K e4 [.type "ValueError", .type "Exception", .type "BaseException", .type "object"] "ValueError.__new__" = true) (xk4 : PySem.W.keepIn K (.ref e4) = true) (xb4 : PySem.W.subIn K (.ref e4) (.type "BaseException") = some true) (xv4 : PySem.W.subIn K (.ref e4) (.type "ValueError") = some true) (xt4 : PySem.W.typeIn K (.ref e4) = some (.type "type")) (xr4 : PySem.W.subIn K (.ref e4) (.ref eB) = some true) (xs4 : PySem.W.subIn K (.ref e4) (.ref e4) = some true) (xg4 : PySem.W.findIn K (.ref e4) "__getattribute__" = some (some (.builtin "BaseException.__getattribute__"))) (xh4 : PySem.W.findIn K (.ref e4) "__getattr__" = some none) (xd4 : PySem.W.hasDictIn K e4 = true) (xa4 : PySem.W.findIn K (.ref e4) "__class__" = some (some (.builtin "object.__class__"))) (xm4 : PySem.W.mroIn K e4 (.type "object") = some true)
    {e5 : Addr} (xn5 : PySem.W.nsIn K mainGlobals "InvalidText" = some (some (.ref e5))) (xi5 : PySem.W.excIn K e5 [.type "ValueError", .type "Exception", .type "BaseException", .type "object"] "ValueError.__new__" = true) (xk5 : PySem.W.keepIn K (.ref e5) = true) (xb5 : PySem.W.subIn K (.ref e5) (.type "BaseException") = some true) (xv5 : PySem.W.subIn K (.ref e5) (.type "ValueError") = some true) (xt5 : PySem.W.typeIn K (.ref e5) = some (.type "type")) (xr5 : PySem.W.subIn K (.ref e5) (.ref eB) = some true) (xs5 : PySem.W.subIn K (.ref e5) (.ref e5) = some true) (xg5 : PySem.W.findIn K (.ref e5) "__getattribute__" = some (some (.builtin "BaseException.__getattribute__"))) (xh5 : PySem.W.findIn K (.ref e5) "__getattr__" = some none) (xd5 : PySem.W.hasDictIn K e5 = true) (xa5 : PySem.W.findIn K (.ref e5) "__class__" = some (some (.builtin "object.__class__"))) (xm5 : PySem.W.mroIn K e5 (.type "object") = some true)
    {e6 : Addr} (xn6 : PySem.W.nsIn K mainGlobals "NoPosition" = some (some (.ref e6))) (xi6 : PySem.W.excIn K e6 [.type "ValueError", .type "Exception", .type "BaseException", .type "object"] "ValueError.__new__" = true) (xk6 : PySem.W.keepIn K (.ref e6) = true) (xb6 : PySem.W.subIn K (.ref e6) (.type "BaseException") = some true) (xv6 : PySem.W.subIn K (.ref e6) (.type "ValueError") = some true) (xt6 : PySem.W.typeIn K (.ref e6) = some (.type "type")) (xr6 : PySem.W.subIn K (.ref e6) (.ref eB) = some true) (xs6 : PySem.W.subIn K (.ref e6) (.ref e6) = some true) (xg6 : PySem.W.findIn K (.ref e6) "__getattribute__" = some (some (.builtin "BaseException.__getattribute__"))) (xh6 : PySem.W.findIn K (.ref e6) "__getattr__" = some none) (xd6 : PySem.W.hasDictIn K e6 = true) (xa6 : PySem.W.findIn K (.ref e6) "__class__" = some (some (.builtin "object.__class__"))) (xm6 : PySem.W.mroIn K e6 (.type "object") = some true)
    {e7 : Addr} (xn7 : PySem.W.nsIn K mainGlobals "ZeroDiagonal" = some (some (.ref e7))) (xi7 : PySem.W.excIn K e7 [.type "ValueError", .type "Exception", .type "BaseException", .type "object"] "ValueError.__new__" = true) (xk7 : PySem.W.keepIn K (.ref e7) = true) (xb7 : PySem.W.subIn K (.ref e7) (.type "BaseException") = some true) (xv7 : PySem.W.subIn K (.ref e7) (.type "ValueError") = some true) (xt7 : PySem.W.typeIn K (.ref e7) = some (.type "type")) (xr7 : PySem.W.subIn K (.ref e7) (.ref eB) = some true) (xs7 : PySem.W.subIn K (.ref e7) (.ref e7) = some true) (xg7 : PySem.W.findIn K (.ref e7) "__getattribute__" = some (some (.builtin "BaseException.__getattribute__"))) (xh7 : PySem.W.findIn K (.ref e7) "__getattr__" = some none) (xd7 : PySem.W.hasDictIn K e7 = true) (xa7 : PySem.W.findIn K (.ref e7) "__class__" = some (some (.builtin "object.__class__"))) (xm7 : PySem.W.mroIn K e7 (.type "object") = some true)
    {e8 : Addr} (xn8 : PySem.W.nsIn K mainGlobals "NoRing" = some (some (.ref e8))) (xi8 : PySem.W.excIn K e8 [.type "ValueError", .type "Exception", .type "BaseException", .type "object"] "ValueError.__new__" = true) (xk8 : PySem.W.keepIn K (.ref e8) = true) (xb8 : PySem.W.subIn K (.ref e8) (.type "BaseException") = some true) (xv8 : PySem.W.subIn K (.ref e8) (.type "ValueError") = some true) (xt8 : PySem.W.typeIn K (.ref e8) = some (.type "type")) (xr8 : PySem.W.subIn K (.ref e8) (.ref eB) = some true) (xs8 : PySem.W.subIn K (.ref e8) (.ref e8) = some true) (xg8 : PySem.W.findIn K (.ref e8) "__getattribute__" = some (some (.builtin "BaseException.__getattribute__"))) (xh8 : PySem.W.findIn K (.ref e8) "__getattr__" = some none) (xd8 : PySem.W.hasDictIn K e8 = true) (xa8 : PySem.W.findIn K (.ref e8) "__class__" = some (some (.builtin "object.__class__"))) (xm8 : PySem.W.mroIn K e8 (.type "object") = some true)
    {e9 : Addr} (xn9 : PySem.W.nsIn K mainGlobals "TooLong" = some (some (.ref e9))) (xi9 : PySem.W.excIn K e9 [.type "ValueError", .type "Exception", .type "BaseException", .type "object"] "ValueError.__new__" = true) (xk9 : PySem.W.keepIn K (.ref e9) = true) (xb9 : PySem.W.subIn K (.ref e9) (.type "BaseException") = some true) (xv9 : PySem.W.subIn K (.ref e9) (.type "ValueError") = some true) (xt9 : PySem.W.typeIn K (.ref e9) = some (.type "type")) (xr9 : PySem.W.subIn K (.ref e9) (.ref eB) = some true) (xs9 : PySem.W.subIn K (.ref e9) (.ref e9) = some true) (xg9 : PySem.W.findIn K (.ref e9) "__getattribute__" = some (some (.builtin "BaseException.__getattribute__"))) (xh9 : PySem.W.findIn K (.ref e9) "__getattr__" = some none) (xd9 : PySem.W.hasDictIn K e9 = true) (xa9 : PySem.W.findIn K (.ref e9) "__class__" = some (some (.builtin "object.__class__"))) (xm9 : PySem.W.mroIn K e9 (.type "object") = some true)
    {e10 : Addr} (xn10 : PySem.W.nsIn K mainGlobals "NothingToUndo" = some (some (.ref e10))) (xi10 : PySem.W.excIn K e10 [.type "ValueError", .type "Exception", .type "BaseException", .type "object"] "ValueError.__new__" = true) (xk10 : PySem.W.keepIn K (.ref e10) = true) (xb10 : PySem.W.subIn K (.ref e10) (.type "BaseException") = some true) (xv10 : PySem.W.subIn K (.ref e10) (.type "ValueError") = some true) (xt10 : PySem.W.typeIn K (.ref e10) = some (.type "type")) (xr10 : PySem.W.subIn K (.ref e10) (.ref eB) = some true) (xs10 : PySem.W.subIn K (.ref e10) (.ref e10) = some true) (xg10 : PySem.W.findIn K (.ref e10) "__getattribute__" = some (some (.builtin "BaseException.__getattribute__"))) (xh10 : PySem.W.findIn K (.ref e10) "__getattr__" = some none) (xd10 : PySem.W.hasDictIn K e10 = true) (xa10 : PySem.W.findIn K (.ref e10) "__class__" = some (some (.builtin "object.__class__"))) (xm10 : PySem.W.mroIn K e10 (.type "object") = some true)
    (q0_1 : PySem.W.subIn K (.ref e0) (.ref e1) = some false) (q0_2 : PySem.W.subIn K (.ref e0) (.ref e2) = some false) (q0_3 : PySem.W.subIn K (.ref e0) (.ref e3) = some false) (q0_4 : PySem.W.subIn K (.ref e0) (.ref e4) = some false) (q0_5 : PySem.W.subIn K (.ref e0) (.ref e5) = some false) (q0_6 : PySem.W.subIn K (.ref e0) (.ref e6) = some false) (q0_7 : PySem.W.subIn K (.ref e0) (.ref e7) = some false) (q0_8 : PySem.W.subIn K (.ref e0) (.ref e8) = some false) (q0_9 : PySem.W.subIn K (.ref e0) (.ref e9) = some false) (q0_10 : PySem.W.subIn K (.ref e0) (.ref e10) = some false)
    (q1_0 : PySem.W.subIn K (.ref e1) (.ref e0) = some false) (q1_2 : PySem.W.subIn K (.ref e1) (.ref e2) = some false) (q1_3 : PySem.W.subIn K (.ref e1) (.ref e3) = some false) (q1_4 : PySem.W.subIn K (.ref e1) (.ref e4) = some false) (q1_5 : PySem.W.subIn K (.ref e1) (.ref e5) = some false) (q1_6 : PySem.W.subIn K (.ref e1) (.ref e6) = some false) (q1_7 : PySem.W.subIn K (.ref e1) (.ref e7) = some false) (q1_8 : PySem.W.subIn K (.ref e1) (.ref e8) = some false) (q1_9 : PySem.W.subIn K (.ref e1) (.ref e9) = some false) (q1_10 : PySem.W.subIn K (.ref e1) (.ref e10) = some false)
    (q2_0 : PySem.W.subIn K (.ref e2) (.ref e0) = some false) (q2_1 : PySem.W.subIn K (.ref e2) (.ref e1) = some false) (q2_3 : PySem.W.subIn K (.ref e2) (.ref e3) = some false) (q2_4 : PySem.W.subIn K (.ref e2) (.ref e4) = some false) (q2_5 : PySem.W.subIn K (.ref e2) (.ref e5) = some false) (q2_6 : PySem.W.subIn K (.ref e2) (.ref e6) = some false) (q2_7 : PySem.W.subIn K (.ref e2) (.ref e7) = some false) (q2_8 : PySem.W.subIn K (.ref e2) (.ref e8) = some false) (q2_9 : PySem.W.subIn K (.ref e2) (.ref e9) = some false) (q2_10 : PySem.W.subIn K (.ref e2) (.ref e10) = some false)
    (q3_0 : PySem.W.subIn K (.ref e3) (.ref e0) = some false) (q3_1 : PySem.W.subIn K (.ref e3) (.ref e1) = some false) (q3_2 : PySem.W.subIn K (.ref e3) (.ref e2) = some false) (q3_4 : PySem.W.subIn K (.ref e3) (.ref e4) = some false) (q3_5 : PySem.W.subIn K (.ref e3) (.ref e5) = some false) (q3_6 : PySem.W.subIn K (.ref e3) (.ref e6) = some false) (q3_7 : PySem.W.subIn K (.ref e3) (.ref e7) = some false) (q3_8 : PySem.W.subIn K (.ref e3) (.ref e8) = some false) (q3_9 : PySem.W.subIn K (.ref e3) (.ref e9) = some false) (q3_10 : PySem.W.subIn K (.ref e3) (.ref e10) = some false)
    (q4_0 : PySem.W.subIn K (.ref e4) (.ref e0) = some false) (q4_1 : PySem.W.subIn K (.ref e4) (.ref e1) = some false) (q4_2 : PySem.W.subIn K (.ref e4) (.ref e2) = some false) (q4_3 : PySem.W.subIn K (.ref e4) (.ref e3) = some false) (q4_5 : PySem.W.subIn K (.ref e4) (.ref e5) = some false) (q4_6 : PySem.W.subIn K (.ref e4) (.ref e6) = some false) (q4_7 : PySem.W.subIn K (.ref e4) (.ref e7) = some false) (q4_8 : PySem.W.subIn K (.ref e4) (.ref e8) = some false) (q4_9 : PySem.W.subIn K (.ref e4) (.ref e9) = some false) (q4_10 : PySem.W.subIn K (.ref e4) (.ref e10) = some false)
    (q5_0 : PySem.W.subIn K (.ref e5) (.ref e0) = some false) (q5_1 : PySem.W.subIn K (.ref e5) (.ref e1) = some false) (q5_2 : PySem.W.subIn K (.ref e5) (.ref e2) = some false) (q5_3 : PySem.W.subIn K (.ref e5) (.ref e3) = some false) (q5_4 : PySem.W.subIn K (.ref e5) (.ref e4) = some false) (q5_6 : PySem.W.subIn K (.ref e5) (.ref e6) = some false) (q5_7 : PySem.W.subIn K (.ref e5) (.ref e7) = some false) (q5_8 : PySem.W.subIn K (.ref e5) (.ref e8) = some false) (q5_9 : PySem.W.subIn K (.ref e5) (.ref e9) = some false) (q5_10 : PySem.W.subIn K (.ref e5) (.ref e10) = some false)
    (q6_0 : PySem.W.subIn K (.ref e6) (.ref e0) = some false) (q6_1 : PySem.W.subIn K (.ref e6) (.ref e1) = some false) (q6_2 : PySem.W.subIn K (.ref e6) (.ref e2) = some false) (q6_3 : PySem.W.subIn K (.ref e6) (.ref e3) = some false) (q6_4 : PySem.W.subIn K (.ref e6) (.ref e4) = some false) (q6_5 : PySem.W.subIn K (.ref e6) (.ref e5) = some false) (q6_7 : PySem.W.subIn K (.ref e6) (.ref e7) = some false) (q6_8 : PySem.W.subIn K (.ref e6) (.ref e8) = some false) (q6_9 : PySem.W.subIn K (.ref e6) (.ref e9) = some false) (q6_10 : PySem.W.subIn K (.ref e6) (.ref e10) = some false)
    (q7_0 : PySem.W.subIn K (.ref e7) (.ref e0) = some false) (q7_1 : PySem.W.subIn K (.ref e7) (.ref e1) = some false) (q7_2 : PySem.W.subIn K (.ref e7) (.ref e2) = some false) (q7_3 : PySem.W.subIn K (.ref e7) (.ref e3) = some false) (q7_4 : PySem.W.subIn K (.ref e7) (.ref e4) = some false) (q7_5 : PySem.W.subIn K (.ref e7) (.ref e5) = some false) (q7_6 : PySem.W.subIn K (.ref e7) (.ref e6) = some false) (q7_8 : PySem.W.subIn K (.ref e7) (.ref e8) = some false) (q7_9 : PySem.W.subIn K (.ref e7) (.ref e9) = some false) (q7_10 : PySem.W.subIn K (.ref e7) (.ref e10) = some false)
    (q8_0 : PySem.W.subIn K (.ref e8) (.ref e0) = some false) (q8_1 : PySem.W.subIn K (.ref e8) (.ref e1) = some false) (q8_2 : PySem.W.subIn K (.ref e8) (.ref e2) = some false) (q8_3 : PySem.W.subIn K (.ref e8) (.ref e3) = some false) (q8_4 : PySem.W.subIn K (.ref e8) (.ref e4) = some false) (q8_5 : PySem.W.subIn K (.ref e8) (.ref e5) = some false) (q8_6 : PySem.W.subIn K (.ref e8) (.ref e6) = some false) (q8_7 : PySem.W.subIn K (.ref e8) (.ref e7) = some false) (q8_9 : PySem.W.subIn K (.ref e8) (.ref e9) = some false) (q8_10 : PySem.W.subIn K (.ref e8) (.ref e10) = some false)
    (q9_0 : PySem.W.subIn K (.ref e9) (.ref e0) = some false) (q9_1 : PySem.W.subIn K (.ref e9) (.ref e1) = some false) (q9_2 : PySem.W.subIn K (.ref e9) (.ref e2) = some false) (q9_3 : PySem.W.subIn K (.ref e9) (.ref e3) = some false) (q9_4 : PySem.W.subIn K (.ref e9) (.ref e4) = some false) (q9_5 : PySem.W.subIn K (.ref e9) (.ref e5) = some false) (q9_6 : PySem.W.subIn K (.ref e9) (.ref e6) = some false) (q9_7 : PySem.W.subIn K (.ref e9) (.ref e7) = some false) (q9_8 : PySem.W.subIn K (.ref e9) (.ref e8) = some false) (q9_10 : PySem.W.subIn K (.ref e9) (.ref e10) = some false)
    (q10_0 : PySem.W.subIn K (.ref e10) (.ref e0) = some false) (q10_1 : PySem.W.subIn K (.ref e10) (.ref e1) = some false) (q10_2 : PySem.W.subIn K (.ref e10) (.ref e2) = some false) (q10_3 : PySem.W.subIn K (.ref e10) (.ref e3) = some false) (q10_4 : PySem.W.subIn K (.ref e10) (.ref e4) = some false) (q10_5 : PySem.W.subIn K (.ref e10) (.ref e5) = some false) (q10_6 : PySem.W.subIn K (.ref e10) (.ref e6) = some false) (q10_7 : PySem.W.subIn K (.ref e10) (.ref e7) = some false) (q10_8 : PySem.W.subIn K (.ref e10) (.ref e8) = some false) (q10_9 : PySem.W.subIn K (.ref e10) (.ref e9) = some false)
    (z_len : PySem.W.nsIn K mainGlobals "len" = some none) (z_abs : PySem.W.nsIn K mainGlobals "abs" = some none) (z_max : PySem.W.nsIn K mainGlobals "max" = some none) (z_min : PySem.W.nsIn K mainGlobals "min" = some none) (z_sum : PySem.W.nsIn K mainGlobals "sum" = some none) (z_sorted : PySem.W.nsIn K mainGlobals "sorted" = some none) (z_all : PySem.W.nsIn K mainGlobals "all" = some none) (z_any : PySem.W.nsIn K mainGlobals "any" = some none) (z_tuple : PySem.W.nsIn K mainGlobals "tuple" = some none) (z_list : PySem.W.nsIn K mainGlobals "list" = some none) (z_int : PySem.W.nsIn K mainGlobals "int" = some none) (z_bool : PySem.W.nsIn K mainGlobals "bool" = some none) (z_str : PySem.W.nsIn K mainGlobals "str" = some none) (z_range : PySem.W.nsIn K mainGlobals "range" = some none) (z_isinstance : PySem.W.nsIn K mainGlobals "isinstance" = some none) (z_zip : PySem.W.nsIn K mainGlobals "zip" = some none) (z_enumerate : PySem.W.nsIn K mainGlobals "enumerate" = some none) (z_set : PySem.W.nsIn K mainGlobals "set" = some none) (z_dict : PySem.W.nsIn K mainGlobals "dict" = some none) :
    ∃ fd : FuncData, (∀ (s : Shared) (v : Value), BindsTo s fd ⟨[v], []⟩ [("script", v)]) ∧ ∀ base : Heap, K.In base → base.Ns mainGlobals mg → FnOk l.prog w K mg base CX0 6 fa fd ["script"] (spF K EE0 1 F_law_k72) := by
  have e := hfa.symm.trans (PySem.W.mg_of X G a17)
  cases e
  have B : Bt mg := ⟨PySem.W.mg_none_of X G z_len, PySem.W.mg_none_of X G z_abs, PySem.W.mg_none_of X G z_max, PySem.W.mg_none_of X G z_min, PySem.W.mg_none_of X G z_sum, PySem.W.mg_none_of X G z_sorted, PySem.W.mg_none_of X G z_all, PySem.W.mg_none_of X G z_any, PySem.W.mg_none_of X G z_tuple, PySem.W.mg_none_of X G z_list, PySem.W.mg_none_of X G z_int, PySem.W.mg_none_of X G z_bool, PySem.W.mg_none_of X G z_str, PySem.W.mg_none_of X G z_range, PySem.W.mg_none_of X G z_isinstance, PySem.W.mg_none_of X G z_zip, PySem.W.mg_none_of X G z_enumerate, PySem.W.mg_none_of X G z_set, PySem.W.mg_none_of X G z_dict⟩
  refine ⟨PySem.W.fnOf "law" "law" (defArgs s_law) (defBody s_law) (defScope s_law) .none kV17 dc17 pm17 an17 cd17 ct17, fun s v => .of_eq rfl, fun base _ _ => ?_⟩
  have FX0 : ExcF K eB e0 := ⟨xi0, xk0, xb0, xv0, xt0, xr0, xs0, ⟨xg0, xh0, xb0, xd0, xa0, xo, xp, xm0⟩⟩
  have D_InvalidRing : ExcD K mg "InvalidRing" := FX0.d xn0 (PySem.W.mg_of X G xn0)
  have FX1 : ExcF K eB e1 := ⟨xi1, xk1, xb1, xv1, xt1, xr1, xs1, ⟨xg1, xh1, xb1, xd1, xa1, xo, xp, xm1⟩⟩
  have D_InvalidNumber : ExcD K mg "InvalidNumber" := FX1.d xn1 (PySem.W.mg_of X G xn1)
  have FX2 : ExcF K eB e2 := ⟨xi2, xk2, xb2, xv2, xt2, xr2, xs2, ⟨xg2, xh2, xb2, xd2, xa2, xo, xp, xm2⟩⟩
  have D_InvalidKind : ExcD K mg "InvalidKind" := FX2.d xn2 (PySem.W.mg_of X G xn2)
  have FX3 : ExcF K eB e3 := ⟨xi3, xk3, xb3, xv3, xt3, xr3, xs3, ⟨xg3, xh3, xb3, xd3, xa3, xo, xp, xm3⟩⟩
  have D_InvalidLength : ExcD K mg "InvalidLength" := FX3.d xn3 (PySem.W.mg_of X G xn3)
  have FX4 : ExcF K eB e4 := ⟨xi4, xk4, xb4, xv4, xt4, xr4, xs4, ⟨xg4, xh4, xb4, xd4, xa4, xo, xp, xm4⟩⟩
  have D_InvalidPerimeter : ExcD K mg "InvalidPerimeter" := FX4.d xn4 (PySem.W.mg_of X G xn4)
  have FX5 : ExcF K eB e5 := ⟨xi5, xk5, xb5, xv5, xt5, xr5, xs5, ⟨xg5, xh5, xb5, xd5, xa5, xo, xp, xm5⟩⟩
  have D_InvalidText : ExcD K mg "InvalidText" := FX5.d xn5 (PySem.W.mg_of X G xn5)
  have FX6 : ExcF K eB e6 := ⟨xi6, xk6, xb6, xv6, xt6, xr6, xs6, ⟨xg6, xh6, xb6, xd6, xa6, xo, xp, xm6⟩⟩
  have D_NoPosition : ExcD K mg "NoPosition" := FX6.d xn6 (PySem.W.mg_of X G xn6)
  have FX7 : ExcF K eB e7 := ⟨xi7, xk7, xb7, xv7, xt7, xr7, xs7, ⟨xg7, xh7, xb7, xd7, xa7, xo, xp, xm7⟩⟩
  have D_ZeroDiagonal : ExcD K mg "ZeroDiagonal" := FX7.d xn7 (PySem.W.mg_of X G xn7)
  have FX8 : ExcF K eB e8 := ⟨xi8, xk8, xb8, xv8, xt8, xr8, xs8, ⟨xg8, xh8, xb8, xd8, xa8, xo, xp, xm8⟩⟩
  have D_NoRing : ExcD K mg "NoRing" := FX8.d xn8 (PySem.W.mg_of X G xn8)
  have FX9 : ExcF K eB e9 := ⟨xi9, xk9, xb9, xv9, xt9, xr9, xs9, ⟨xg9, xh9, xb9, xd9, xa9, xo, xp, xm9⟩⟩
  have D_TooLong : ExcD K mg "TooLong" := FX9.d xn9 (PySem.W.mg_of X G xn9)
  have FX10 : ExcF K eB e10 := ⟨xi10, xk10, xb10, xv10, xt10, xr10, xs10, ⟨xg10, xh10, xb10, xd10, xa10, xo, xp, xm10⟩⟩
  have D_NothingToUndo : ExcD K mg "NothingToUndo" := FX10.d xn10 (PySem.W.mg_of X G xn10)
  have T : ExcAll K mg eB := by
    refine ⟨PySem.W.mg_of X G xB, ?_, ?_⟩
    · simp only [errs, List.forall_mem_cons, List.not_mem_nil, false_imp_iff, implies_true, and_true]
      exact ⟨⟨e0, xn0, PySem.W.mg_of X G xn0, PySem.W.exm_ref bB dB tB xr0, FX0.x, kit_val xv0⟩, ⟨e1, xn1, PySem.W.mg_of X G xn1, PySem.W.exm_ref bB dB tB xr1, FX1.x, kit_val xv1⟩, ⟨e2, xn2, PySem.W.mg_of X G xn2, PySem.W.exm_ref bB dB tB xr2, FX2.x, kit_val xv2⟩, ⟨e3, xn3, PySem.W.mg_of X G xn3, PySem.W.exm_ref bB dB tB xr3, FX3.x, kit_val xv3⟩, ⟨e4, xn4, PySem.W.mg_of X G xn4, PySem.W.exm_ref bB dB tB xr4, FX4.x, kit_val xv4⟩, ⟨e5, xn5, PySem.W.mg_of X G xn5, PySem.W.exm_ref bB dB tB xr5, FX5.x, kit_val xv5⟩, ⟨e6, xn6, PySem.W.mg_of X G xn6, PySem.W.exm_ref bB dB tB xr6, FX6.x, kit_val xv6⟩, ⟨e7, xn7, PySem.W.mg_of X G xn7, PySem.W.exm_ref bB dB tB xr7, FX7.x, kit_val xv7⟩, ⟨e8, xn8, PySem.W.mg_of X G xn8, PySem.W.exm_ref bB dB tB xr8, FX8.x, kit_val xv8⟩, ⟨e9, xn9, PySem.W.mg_of X G xn9, PySem.W.exm_ref bB dB tB xr9, FX9.x, kit_val xv9⟩, ⟨e10, xn10, PySem.W.mg_of X G xn10, PySem.W.exm_ref bB dB tB xr10, FX10.x, kit_val xv10⟩⟩
    · simp only [errs, List.forall_mem_cons, List.not_mem_nil, false_imp_iff, implies_true, and_true]
      exact ⟨⟨fun C D h1 h2 => by rw [xn0] at h1; rw [xn0] at h2; cases h1; cases h2; exact kit_ref FX0 xs0, fun C D h1 h2 => by rw [xn0] at h1; rw [xn1] at h2; cases h1; cases h2; exact kit_ref FX1 q0_1, fun C D h1 h2 => by rw [xn0] at h1; rw [xn2] at h2; cases h1; cases h2; exact kit_ref FX2 q0_2, fun C D h1 h2 => by rw [xn0] at h1; rw [xn3] at h2; cases h1; cases h2; exact kit_ref FX3 q0_3, fun C D h1 h2 => by rw [xn0] at h1; rw [xn4] at h2; cases h1; cases h2; exact kit_ref FX4 q0_4, fun C D h1 h2 => by rw [xn0] at h1; rw [xn5] at h2; cases h1; cases h2; exact kit_ref FX5 q0_5, fun C D h1 h2 => by rw [xn0] at h1; rw [xn6] at h2; cases h1; cases h2; exact kit_ref FX6 q0_6, fun C D h1 h2 => by rw [xn0] at h1; rw [xn7] at h2; cases h1; cases h2; exact kit_ref FX7 q0_7, fun C D h1 h2 => by rw [xn0] at h1; rw [xn8] at h2; cases h1; cases h2; exact kit_ref FX8 q0_8, fun C D h1 h2 => by rw [xn0] at h1; rw [xn9] at h2; cases h1; cases h2; exact kit_ref FX9 q0_9, fun C D h1 h2 => by rw [xn0] at h1; rw [xn10] at h2; cases h1; cases h2; exact kit_ref FX10 q0_10⟩,
        ⟨fun C D h1 h2 => by rw [xn1] at h1; rw [xn0] at h2; cases h1; cases h2; exact kit_ref FX0 q1_0, fun C D h1 h2 => by rw [xn1] at h1; rw [xn1] at h2; cases h1; cases h2; exact kit_ref FX1 xs1, fun C D h1 h2 => by rw [xn1] at h1; rw [xn2] at h2; cases h1; cases h2; exact kit_ref FX2 q1_2, fun C D h1 h2 => by rw [xn1] at h1; rw [xn3] at h2; cases h1; cases h2; exact kit_ref FX3 q1_3, fun C D h1 h2 => by rw [xn1] at h1; rw [xn4] at h2; cases h1; cases h2; exact kit_ref FX4 q1_4, fun C D h1 h2 => by rw [xn1] at h1; rw [xn5] at h2; cases h1; cases h2; exact kit_ref FX5 q1_5, fun C D h1 h2 => by rw [xn1] at h1; rw [xn6] at h2; cases h1; cases h2; exact kit_ref FX6 q1_6, fun C D h1 h2 => by rw [xn1] at h1; rw [xn7] at h2; cases h1; cases h2; exact kit_ref FX7 q1_7, fun C D h1 h2 => by rw [xn1] at h1; rw [xn8] at h2; cases h1; cases h2; exact kit_ref FX8 q1_8, fun C D h1 h2 => by rw [xn1] at h1; rw [xn9] at h2; cases h1; cases h2; exact kit_ref FX9 q1_9, fun C D h1 h2 => by rw [xn1] at h1; rw [xn10] at h2; cases h1; cases h2; exact kit_ref FX10 q1_10⟩,
        ⟨fun C D h1 h2 => by rw [xn2] at h1; rw [xn0] at h2; cases h1; cases h2; exact kit_ref FX0 q2_0, fun C D h1 h2 => by rw [xn2] at h1; rw [xn1] at h2; cases h1; cases h2; exact kit_ref FX1 q2_1, fun C D h1 h2 => by rw [xn2] at h1; rw [xn2] at h2; cases h1; cases h2; exact kit_ref FX2 xs2, fun C D h1 h2 => by rw [xn2] at h1; rw [xn3] at h2; cases h1; cases h2; exact kit_ref FX3 q2_3, fun C D h1 h2 => by rw [xn2] at h1; rw [xn4] at h2; cases h1; cases h2; exact kit_ref FX4 q2_4, fun C D h1 h2 => by rw [xn2] at h1; rw [xn5] at h2; cases h1; cases h2; exact kit_ref FX5 q2_5, fun C D h1 h2 => by rw [xn2] at h1; rw [xn6] at h2; cases h1; cases h2; exact kit_ref FX6 q2_6, fun C D h1 h2 => by rw [xn2] at h1; rw [xn7] at h2; cases h1; cases h2; exact kit_ref FX7 q2_7, fun C D h1 h2 => by rw [xn2] at h1; rw [xn8] at h2; cases h1; cases h2; exact kit_ref FX8 q2_8, fun C D h1 h2 => by rw [xn2] at h1; rw [xn9] at h2; cases h1; cases h2; exact kit_ref FX9 q2_9, fun C D h1 h2 => by rw [xn2] at h1; rw [xn10] at h2; cases h1; cases h2; exact kit_ref FX10 q2_10⟩,
        ⟨fun C D h1 h2 => by rw [xn3] at h1; rw [xn0] at h2; cases h1; cases h2; exact kit_ref FX0 q3_0, fun C D h1 h2 => by rw [xn3] at h1; rw [xn1] at h2; cases h1; cases h2; exact kit_ref FX1 q3_1, fun C D h1 h2 => by rw [xn3] at h1; rw [xn2] at h2; cases h1; cases h2; exact kit_ref FX2 q3_2, fun C D h1 h2 => by rw [xn3] at h1; rw [xn3] at h2; cases h1; cases h2; exact kit_ref FX3 xs3, fun C D h1 h2 => by rw [xn3] at h1; rw [xn4] at h2; cases h1; cases h2; exact kit_ref FX4 q3_4, fun C D h1 h2 => by rw [xn3] at h1; rw [xn5] at h2; cases h1; cases h2; exact kit_ref FX5 q3_5, fun C D h1 h2 => by rw [xn3] at h1; rw [xn6] at h2; cases h1; cases h2; exact kit_ref FX6 q3_6, fun C D h1 h2 => by rw [xn3] at h1; rw [xn7] at h2; cases h1; cases h2; exact kit_ref FX7 q3_7, fun C D h1 h2 => by rw [xn3] at h1; rw [xn8] at h2; cases h1; cases h2; exact kit_ref FX8 q3_8, fun C D h1 h2 => by rw [xn3] at h1; rw [xn9] at h2; cases h1; cases h2; exact kit_ref FX9 q3_9, fun C D h1 h2 => by rw [xn3] at h1; rw [xn10] at h2; cases h1; cases h2; exact kit_ref FX10 q3_10⟩,
        ⟨fun C D h1 h2 => by rw [xn4] at h1; rw [xn0] at h2; cases h1; cases h2; exact kit_ref FX0 q4_0, fun C D h1 h2 => by rw [xn4] at h1; rw [xn1] at h2; cases h1; cases h2; exact kit_ref FX1 q4_1, fun C D h1 h2 => by rw [xn4] at h1; rw [xn2] at h2; cases h1; cases h2; exact kit_ref FX2 q4_2, fun C D h1 h2 => by rw [xn4] at h1; rw [xn3] at h2; cases h1; cases h2; exact kit_ref FX3 q4_3, fun C D h1 h2 => by rw [xn4] at h1; rw [xn4] at h2; cases h1; cases h2; exact kit_ref FX4 xs4, fun C D h1 h2 => by rw [xn4] at h1; rw [xn5] at h2; cases h1; cases h2; exact kit_ref FX5 q4_5, fun C D h1 h2 => by rw [xn4] at h1; rw [xn6] at h2; cases h1; cases h2; exact kit_ref FX6 q4_6, fun C D h1 h2 => by rw [xn4] at h1; rw [xn7] at h2; cases h1; cases h2; exact kit_ref FX7 q4_7, fun C D h1 h2 => by rw [xn4] at h1; rw [xn8] at h2; cases h1; cases h2; exact kit_ref FX8 q4_8, fun C D h1 h2 => by rw [xn4] at h1; rw [xn9] at h2; cases h1; cases h2; exact kit_ref FX9 q4_9, fun C D h1 h2 => by rw [xn4] at h1; rw [xn10] at h2; cases h1; cases h2; exact kit_ref FX10 q4_10⟩,
        ⟨fun C D h1 h2 => by rw [xn5] at h1; rw [xn0] at h2; cases h1; cases h2; exact kit_ref FX0 q5_0, fun C D h1 h2 => by rw [xn5] at h1; rw [xn1] at h2; cases h1; cases h2; exact kit_ref FX1 q5_1, fun C D h1 h2 => by rw [xn5] at h1; rw [xn2] at h2; cases h1; cases h2; exact kit_ref FX2 q5_2, fun C D h1 h2 => by rw [xn5] at h1; rw [xn3] at h2; cases h1; cases h2; exact kit_ref FX3 q5_3, fun C D h1 h2 => by rw [xn5] at h1; rw [xn4] at h2; cases h1; cases h2; exact kit_ref FX4 q5_4, fun C D h1 h2 => by rw [xn5] at h1; rw [xn5] at h2; cases h1; cases h2; exact kit_ref FX5 xs5, fun C D h1 h2 => by rw [xn5] at h1; rw [xn6] at h2; cases h1; cases h2; exact kit_ref FX6 q5_6, fun C D h1 h2 => by rw [xn5] at h1; rw [xn7] at h2; cases h1; cases h2; exact kit_ref FX7 q5_7, fun C D h1 h2 => by rw [xn5] at h1; rw [xn8] at h2; cases h1; cases h2; exact kit_ref FX8 q5_8, fun C D h1 h2 => by rw [xn5] at h1; rw [xn9] at h2; cases h1; cases h2; exact kit_ref FX9 q5_9, fun C D h1 h2 => by rw [xn5] at h1; rw [xn10] at h2; cases h1; cases h2; exact kit_ref FX10 q5_10⟩,
        ⟨fun C D h1 h2 => by rw [xn6] at h1; rw [xn0] at h2; cases h1; cases h2; exact kit_ref FX0 q6_0, fun C D h1 h2 => by rw [xn6] at h1; rw [xn1] at h2; cases h1; cases h2; exact kit_ref FX1 q6_1, fun C D h1 h2 => by rw [xn6] at h1; rw [xn2] at h2; cases h1; cases h2; exact kit_ref FX2 q6_2, fun C D h1 h2 => by rw [xn6] at h1; rw [xn3] at h2; cases h1; cases h2; exact kit_ref FX3 q6_3, fun C D h1 h2 => by rw [xn6] at h1; rw [xn4] at h2; cases h1; cases h2; exact kit_ref FX4 q6_4, fun C D h1 h2 => by rw [xn6] at h1; rw [xn5] at h2; cases h1; cases h2; exact kit_ref FX5 q6_5, fun C D h1 h2 => by rw [xn6] at h1; rw [xn6] at h2; cases h1; cases h2; exact kit_ref FX6 xs6, fun C D h1 h2 => by rw [xn6] at h1; rw [xn7] at h2; cases h1; cases h2; exact kit_ref FX7 q6_7, fun C D h1 h2 => by rw [xn6] at h1; rw [xn8] at h2; cases h1; cases h2; exact kit_ref FX8 q6_8, fun C D h1 h2 => by rw [xn6] at h1; rw [xn9] at h2; cases h1; cases h2; exact kit_ref FX9 q6_9, fun C D h1 h2 => by rw [xn6] at h1; rw [xn10] at h2; cases h1; cases h2; exact kit_ref FX10 q6_10⟩,
        ⟨fun C D h1 h2 => by rw [xn7] at h1; rw [xn0] at h2; cases h1; cases h2; exact kit_ref FX0 q7_0, fun C D h1 h2 => by rw [xn7] at h1; rw [xn1] at h2; cases h1; cases h2; exact kit_ref FX1 q7_1, fun C D h1 h2 => by rw [xn7] at h1; rw [xn2] at h2; cases h1; cases h2; exact kit_ref FX2 q7_2, fun C D h1 h2 => by rw [xn7] at h1; rw [xn3] at h2; cases h1; cases h2; exact kit_ref FX3 q7_3, fun C D h1 h2 => by rw [xn7] at h1; rw [xn4] at h2; cases h1; cases h2; exact kit_ref FX4 q7_4, fun C D h1 h2 => by rw [xn7] at h1; rw [xn5] at h2; cases h1; cases h2; exact kit_ref FX5 q7_5, fun C D h1 h2 => by rw [xn7] at h1; rw [xn6] at h2; cases h1; cases h2; exact kit_ref FX6 q7_6, fun C D h1 h2 => by rw [xn7] at h1; rw [xn7] at h2; cases h1; cases h2; exact kit_ref FX7 xs7, fun C D h1 h2 => by rw [xn7] at h1; rw [xn8] at h2; cases h1; cases h2; exact kit_ref FX8 q7_8, fun C D h1 h2 => by rw [xn7] at h1; rw [xn9] at h2; cases h1; cases h2; exact kit_ref FX9 q7_9, fun C D h1 h2 => by rw [xn7] at h1; rw [xn10] at h2; cases h1; cases h2; exact kit_ref FX10 q7_10⟩,
        ⟨fun C D h1 h2 => by rw [xn8] at h1; rw [xn0] at h2; cases h1; cases h2; exact kit_ref FX0 q8_0, fun C D h1 h2 => by rw [xn8] at h1; rw [xn1] at h2; cases h1; cases h2; exact kit_ref FX1 q8_1, fun C D h1 h2 => by rw [xn8] at h1; rw [xn2] at h2; cases h1; cases h2; exact kit_ref FX2 q8_2, fun C D h1 h2 => by rw [xn8] at h1; rw [xn3] at h2; cases h1; cases h2; exact kit_ref FX3 q8_3, fun C D h1 h2 => by rw [xn8] at h1; rw [xn4] at h2; cases h1; cases h2; exact kit_ref FX4 q8_4, fun C D h1 h2 => by rw [xn8] at h1; rw [xn5] at h2; cases h1; cases h2; exact kit_ref FX5 q8_5, fun C D h1 h2 => by rw [xn8] at h1; rw [xn6] at h2; cases h1; cases h2; exact kit_ref FX6 q8_6, fun C D h1 h2 => by rw [xn8] at h1; rw [xn7] at h2; cases h1; cases h2; exact kit_ref FX7 q8_7, fun C D h1 h2 => by rw [xn8] at h1; rw [xn8] at h2; cases h1; cases h2; exact kit_ref FX8 xs8, fun C D h1 h2 => by rw [xn8] at h1; rw [xn9] at h2; cases h1; cases h2; exact kit_ref FX9 q8_9, fun C D h1 h2 => by rw [xn8] at h1; rw [xn10] at h2; cases h1; cases h2; exact kit_ref FX10 q8_10⟩,
        ⟨fun C D h1 h2 => by rw [xn9] at h1; rw [xn0] at h2; cases h1; cases h2; exact kit_ref FX0 q9_0, fun C D h1 h2 => by rw [xn9] at h1; rw [xn1] at h2; cases h1; cases h2; exact kit_ref FX1 q9_1, fun C D h1 h2 => by rw [xn9] at h1; rw [xn2] at h2; cases h1; cases h2; exact kit_ref FX2 q9_2, fun C D h1 h2 => by rw [xn9] at h1; rw [xn3] at h2; cases h1; cases h2; exact kit_ref FX3 q9_3, fun C D h1 h2 => by rw [xn9] at h1; rw [xn4] at h2; cases h1; cases h2; exact kit_ref FX4 q9_4, fun C D h1 h2 => by rw [xn9] at h1; rw [xn5] at h2; cases h1; cases h2; exact kit_ref FX5 q9_5, fun C D h1 h2 => by rw [xn9] at h1; rw [xn6] at h2; cases h1; cases h2; exact kit_ref FX6 q9_6, fun C D h1 h2 => by rw [xn9] at h1; rw [xn7] at h2; cases h1; cases h2; exact kit_ref FX7 q9_7, fun C D h1 h2 => by rw [xn9] at h1; rw [xn8] at h2; cases h1; cases h2; exact kit_ref FX8 q9_8, fun C D h1 h2 => by rw [xn9] at h1; rw [xn9] at h2; cases h1; cases h2; exact kit_ref FX9 xs9, fun C D h1 h2 => by rw [xn9] at h1; rw [xn10] at h2; cases h1; cases h2; exact kit_ref FX10 q9_10⟩,
        ⟨fun C D h1 h2 => by rw [xn10] at h1; rw [xn0] at h2; cases h1; cases h2; exact kit_ref FX0 q10_0, fun C D h1 h2 => by rw [xn10] at h1; rw [xn1] at h2; cases h1; cases h2; exact kit_ref FX1 q10_1, fun C D h1 h2 => by rw [xn10] at h1; rw [xn2] at h2; cases h1; cases h2; exact kit_ref FX2 q10_2, fun C D h1 h2 => by rw [xn10] at h1; rw [xn3] at h2; cases h1; cases h2; exact kit_ref FX3 q10_3, fun C D h1 h2 => by rw [xn10] at h1; rw [xn4] at h2; cases h1; cases h2; exact kit_ref FX4 q10_4, fun C D h1 h2 => by rw [xn10] at h1; rw [xn5] at h2; cases h1; cases h2; exact kit_ref FX5 q10_5, fun C D h1 h2 => by rw [xn10] at h1; rw [xn6] at h2; cases h1; cases h2; exact kit_ref FX6 q10_6, fun C D h1 h2 => by rw [xn10] at h1; rw [xn7] at h2; cases h1; cases h2; exact kit_ref FX7 q10_7, fun C D h1 h2 => by rw [xn10] at h1; rw [xn8] at h2; cases h1; cases h2; exact kit_ref FX8 q10_8, fun C D h1 h2 => by rw [xn10] at h1; rw [xn9] at h2; cases h1; cases h2; exact kit_ref FX9 q10_9, fun C D h1 h2 => by rw [xn10] at h1; rw [xn10] at h2; cases h1; cases h2; exact kit_ref FX10 xs10⟩⟩
  have ZV : mg "ValueError" = none := PySem.W.mg_none_of X G z_ValueError
  have G_is_between : Ok l.prog w K mg base 1 "is_between" 3 F_is_between := ok_is_between B (fun_mk (st := s_is_between) l0 c0 k0) (PySem.W.mg_of X G a0) 
  have G_does_close : Ok l.prog w K mg base 1 "does_close" 1 F_does_close := ok_does_close B (fun_mk (st := s_does_close) l1 c1 k1) (PySem.W.mg_of X G a1) 
  have GN_does_close : OkN l.prog w K mg base 1 "does_close" 1 F_does_close := okN_does_close B (fun_mk (st := s_does_close) l1 c1 k1) (PySem.W.mg_of X G a1) 
  have G_ring_text : Ok l.prog w K mg base 1 "ring_text" 1 F_ring_text := ok_ring_text B (fun_mk (st := s_ring_text) l4 c4 k4) (PySem.W.mg_of X G a4) 
  have GN_ring_text : OkN l.prog w K mg base 1 "ring_text" 1 F_ring_text := okN_ring_text B (fun_mk (st := s_ring_text) l4 c4 k4) (PySem.W.mg_of X G a4) 
  have G_length_of : Ok l.prog w K mg base 1 "length_of" 1 F_length_of := ok_length_of B (fun_mk (st := s_length_of) l6 c6 k6) (PySem.W.mg_of X G a6) 
  have G_law_town : Ok l.prog w K mg base 1 "_law_town" 1 F_law_town := ok_law_town B (fun_mk (st := s_law_town) l8 c8 k8) (PySem.W.mg_of X G a8) 
  have G_law_draw : Ok l.prog w K mg base 1 "_law_draw" 3 F_law_draw := ok_law_draw B (fun_mk (st := s_law_draw) l9 c9 k9) (PySem.W.mg_of X G a9) 
  have G_law_name : Ok l.prog w K mg base 1 "_law_name" 1 F_law_name := ok_law_name B (fun_mk (st := s_law_name) l12 c12 k12) (PySem.W.mg_of X G a12) T ZV 
  have G_law_raises : Ok l.prog w K mg base 1 "_law_raises" 1 F_law_raises := ok_law_raises B (fun_mk (st := s_law_raises) l13 c13 k13) (PySem.W.mg_of X G a13) 
  have G_law_closes : Ok l.prog w K mg base 1 "_law_closes" 1 F_law_closes := ok_law_closes B (fun_mk (st := s_law_closes) l14 c14 k14) (PySem.W.mg_of X G a14) 
  have G_is_ring : Ok l.prog w K mg base 2 "is_ring" 1 F_is_ring := ok_is_ring B (fun_mk (st := s_is_ring) l2 c2 k2) (PySem.W.mg_of X G a2) G_is_between G_does_close
  have GN_is_ring : OkN l.prog w K mg base 2 "is_ring" 1 F_is_ring := okN_is_ring B (fun_mk (st := s_is_ring) l2 c2 k2) (PySem.W.mg_of X G a2) G_is_between GN_does_close
  have G_law_pick : Ok l.prog w K mg base 2 "_law_pick" 3 F_law_pick := ok_law_pick B (fun_mk (st := s_law_pick) l10 c10 k10) (PySem.W.mg_of X G a10) G_law_draw
  have G_law_ring : Ok l.prog w K mg base 2 "_law_ring" 3 F_law_ring := ok_law_ring B (fun_mk (st := s_law_ring) l15 c15 k15) (PySem.W.mg_of X G a15) G_law_draw G_law_closes
  have G_check_ring : Ok l.prog w K mg base 3 "check_ring" 1 F_check_ring := ok_check_ring B (fun_mk (st := s_check_ring) l3 c3 k3) (PySem.W.mg_of X G a3) G_is_ring
  have GX_parse_ring : OkX l.prog w K mg base 3 "parse_ring" 1 F_parse_ring := okX_parse_ring B (fun_mk (st := s_parse_ring) l7 c7 k7) (PySem.W.mg_of X G a7) D_InvalidText G_length_of GN_is_ring GN_ring_text
  have G_format_ring : Ok l.prog w K mg base 4 "format_ring" 1 F_format_ring := ok_format_ring B (fun_mk (st := s_format_ring) l5 c5 k5) (PySem.W.mg_of X G a5) G_check_ring G_ring_text
  have GX_law_call : OkX l.prog w K mg base 4 "_law_call" 2 F_law_call_k72 := okX_law_call B (fun_mk (st := s_law_call) l16 c16 k16) (PySem.W.mg_of X G a16) GX_parse_ring
  have G_law_outcome : Ok l.prog w K mg base 5 "_law_outcome" 2 F_law_outcome_k72 := ok_law_outcome B (fun_mk (st := s_law_outcome) l11 c11 k11) (PySem.W.mg_of X G a11) T ZV GX_law_call G_law_name
  exact ok_law B (fun_mk (st := s_law) l17 c17 k17) G_law_town G_law_ring G_law_pick G_format_ring G_law_outcome G_law_draw G_law_closes G_law_raises
end G
end
open PySem PySem.W PyProof.Rows
set_option maxRecDepth 100000 in
set_option maxHeartbeats 0 in
theorem PySem.Challenge.cw_fourbars_k72_whole_texts_holds : PySem.Challenge.rw_fourbars_k72_whole_texts.Holds := by
  w_on; o_law; k_head; (case hw => w_witness2)
  k_fill
  refine L2.walk_of (l := PySem.Challenge.rw_fourbars_k72_whole_texts) (n := 63) (k := 6) (x := "script") (CX := fun _ => L2.CX0) (sp := fun w => Iv.spF _ Iv.EE0 1 G.F_law_k72) rfl (by decide) rfl ⟨rfl, by decide, by decide⟩ (fun w h Y => PySem.W.kIn_of Y) ?F (fun _ H a ns hl _ hS => Iv.law_end (G.law_true_k72 ns hl) hS) (fun _ _ _ _ _ h => h)
  case F =>
    intro w mg fa h KX GX hmg
    refine' G.all_mk KX GX hmg ?a0 ?l0 ?c0 ?k0 ?a1 ?l1 ?c1 ?k1 ?a2 ?l2 ?c2 ?k2 ?a3 ?l3 ?c3 ?k3 ?a4 ?l4 ?c4 ?k4 ?a5 ?l5 ?c5 ?k5 ?a6 ?l6 ?c6 ?k6 ?a7 ?l7 ?c7 ?k7 ?a8 ?l8 ?c8 ?k8 ?a9 ?l9 ?c9 ?k9 ?a10 ?l10 ?c10 ?k10 ?a11 ?l11 ?c11 ?k11 ?a12 ?l12 ?c12 ?k12 ?a13 ?l13 ?c13 ?k13 ?a14 ?l14 ?c14 ?k14 ?a15 ?l15 ?c15 ?k15 ?a16 ?l16 ?c16 ?k16 ?a17 ?l17 ?c17 ?k17 ?xB ?bB ?dB ?tB ?z_ValueError ?xo ?xp ?xn0 ?xi0 ?xk0 ?xb0 ?xv0 ?xt0 ?xr0 ?xs0 ?xg0 ?xh0 ?xd0 ?xa0 ?xm0 ?xn1 ?xi1 ?xk1 ?xb1 ?xv1 ?xt1 ?xr1 ?xs1 ?xg1 ?xh1 ?xd1 ?xa1 ?xm1 ?xn2 ?xi2 ?xk2 ?xb2 ?xv2 ?xt2 ?xr2 ?xs2 ?xg2 ?xh2 ?xd2 ?xa2 ?xm2 ?xn3 ?xi3 ?xk3 ?xb3 ?xv3 ?xt3 ?xr3 ?xs3 ?xg3 ?xh3 ?xd3 ?xa3 ?xm3 ?xn4 ?xi4 ?xk4 ?xb4 ?xv4 ?xt4 ?xr4 ?xs4 ?xg4 ?xh4 ?xd4 ?xa4 ?xm4 ?xn5 ?xi5 ?xk5 ?xb5 ?xv5 ?xt5 ?xr5 ?xs5 ?xg5 ?xh5 ?xd5 ?xa5 ?xm5 ?xn6 ?xi6 ?xk6 ?xb6 ?xv6 ?xt6 ?xr6 ?xs6 ?xg6 ?xh6 ?xd6 ?xa6 ?xm6 ?xn7 ?xi7 ?xk7 ?xb7 ?xv7 ?xt7 ?xr7 ?xs7 ?xg7 ?xh7 ?xd7 ?xa7 ?xm7 ?xn8 ?xi8 ?xk8 ?xb8 ?xv8 ?xt8 ?xr8 ?xs8 ?xg8 ?xh8 ?xd8 ?xa8 ?xm8 ?xn9 ?xi9 ?xk9 ?xb9 ?xv9 ?xt9 ?xr9 ?xs9 ?xg9 ?xh9 ?xd9 ?xa9 ?xm9 ?xn10 ?xi10 ?xk10 ?xb10 ?xv10 ?xt10 ?xr10 ?xs10 ?xg10 ?xh10 ?xd10 ?xa10 ?xm10 ?q0_1 ?q0_2 ?q0_3 ?q0_4 ?q0_5 ?q0_6 ?q0_7 ?q0_8 ?q0_9 ?q0_10 ?q1_0 ?q1_2 ?q1_3 ?q1_4 ?q1_5 ?q1_6 ?q1_7 ?q1_8 ?q1_9 ?q1_10 ?q2_0 ?q2_1 ?q2_3 ?q2_4 ?q2_5 ?q2_6 ?q2_7 ?q2_8 ?q2_9 ?q2_10 ?q3_0 ?q3_1 ?q3_2 ?q3_4 ?q3_5 ?q3_6 ?q3_7 ?q3_8 ?q3_9 ?q3_10 ?q4_0 ?q4_1 ?q4_2 ?q4_3 ?q4_5 ?q4_6 ?q4_7 ?q4_8 ?q4_9 ?q4_10 ?q5_0 ?q5_1 ?q5_2 ?q5_3 ?q5_4 ?q5_6 ?q5_7 ?q5_8 ?q5_9 ?q5_10 ?q6_0 ?q6_1 ?q6_2 ?q6_3 ?q6_4 ?q6_5 ?q6_7 ?q6_8 ?q6_9 ?q6_10 ?q7_0 ?q7_1 ?q7_2 ?q7_3 ?q7_4 ?q7_5 ?q7_6 ?q7_8 ?q7_9 ?q7_10 ?q8_0 ?q8_1 ?q8_2 ?q8_3 ?q8_4 ?q8_5 ?q8_6 ?q8_7 ?q8_9 ?q8_10 ?q9_0 ?q9_1 ?q9_2 ?q9_3 ?q9_4 ?q9_5 ?q9_6 ?q9_7 ?q9_8 ?q9_10 ?q10_0 ?q10_1 ?q10_2 ?q10_3 ?q10_4 ?q10_5 ?q10_6 ?q10_7 ?q10_8 ?q10_9 ?z_len ?z_abs ?z_max ?z_min ?z_sum ?z_sorted ?z_all ?z_any ?z_tuple ?z_list ?z_int ?z_bool ?z_str ?z_range ?z_isinstance ?z_zip ?z_enumerate ?z_set ?z_dict
    (case a0 => k_is)
    (case l0 => k_is)
    (case c0 => k_is)
    (case k0 => k_is)
    (case a1 => k_is)
    (case l1 => k_is)
    (case c1 => k_is)
    (case k1 => k_is)
    (case a2 => k_is)
    (case l2 => k_is)
    (case c2 => k_is)
    (case k2 => k_is)
    (case a3 => k_is)
    (case l3 => k_is)
    (case c3 => k_is)
    (case k3 => k_is)
    (case a4 => k_is)
    (case l4 => k_is)
    (case c4 => k_is)
    (case k4 => k_is)
    (case a5 => k_is)
    (case l5 => k_is)
    (case c5 => k_is)
    (case k5 => k_is)
    (case a6 => k_is)
    (case l6 => k_is)
    (case c6 => k_is)
    (case k6 => k_is)
    (case a7 => k_is)
    (case l7 => k_is)
    (case c7 => k_is)
    (case k7 => k_is)
    (case a8 => k_is)
    (case l8 => k_is)
    (case c8 => k_is)
    (case k8 => k_is)
    (case a9 => k_is)
    (case l9 => k_is)
    (case c9 => k_is)
    (case k9 => k_is)
    (case a10 => k_is)
    (case l10 => k_is)
    (case c10 => k_is)
    (case k10 => k_is)
    (case a11 => k_is)
    (case l11 => k_is)
    (case c11 => k_is)
    (case k11 => k_is)
    (case a12 => k_is)
    (case l12 => k_is)
    (case c12 => k_is)
    (case k12 => k_is)
    (case a13 => k_is)
    (case l13 => k_is)
    (case c13 => k_is)
    (case k13 => k_is)
    (case a14 => k_is)
    (case l14 => k_is)
    (case c14 => k_is)
    (case k14 => k_is)
    (case a15 => k_is)
    (case l15 => k_is)
    (case c15 => k_is)
    (case k15 => k_is)
    (case a16 => k_is)
    (case l16 => k_is)
    (case c16 => k_is)
    (case k16 => k_is)
    (case a17 => k_is)
    (case l17 => k_is)
    (case c17 => k_is)
    (case k17 => k_is)
    (case xB => k_is)
    (case bB => k_is)
    (case dB => k_is)
    (case tB => k_is)
    (case z_ValueError => k_is)
    (case xo => k_is)
    (case xp => k_is)
    (case xn0 => k_is)
    (case xi0 => k_exc)
    (case xk0 => k_is)
    (case xb0 => k_is)
    (case xv0 => k_is)
    (case xt0 => k_is)
    (case xr0 => k_is)
    (case xs0 => k_is)
    (case xg0 => k_is)
    (case xh0 => k_is)
    (case xd0 => k_is)
    (case xa0 => k_is)
    (case xm0 => k_is)
    (case xn1 => k_is)
    (case xi1 => k_exc)
    (case xk1 => k_is)
    (case xb1 => k_is)
    (case xv1 => k_is)
    (case xt1 => k_is)
    (case xr1 => k_is)
    (case xs1 => k_is)
    (case xg1 => k_is)
    (case xh1 => k_is)
    (case xd1 => k_is)
    (case xa1 => k_is)
    (case xm1 => k_is)
    (case xn2 => k_is)
    (case xi2 => k_exc)
    (case xk2 => k_is)
    (case xb2 => k_is)
    (case xv2 => k_is)
    (case xt2 => k_is)
    (case xr2 => k_is)
    (case xs2 => k_is)
    (case xg2 => k_is)
    (case xh2 => k_is)
    (case xd2 => k_is)
    (case xa2 => k_is)
    (case xm2 => k_is)
    (case xn3 => k_is)
    (case xi3 => k_exc)
    (case xk3 => k_is)
    (case xb3 => k_is)
    (case xv3 => k_is)
    (case xt3 => k_is)
    (case xr3 => k_is)
    (case xs3 => k_is)
    (case xg3 => k_is)
    (case xh3 => k_is)
    (case xd3 => k_is)
    (case xa3 => k_is)
    (case xm3 => k_is)
    (case xn4 => k_is)
    (case xi4 => k_exc)
    (case xk4 => k_is)
    (case xb4 => k_is)
    (case xv4 => k_is)
    (case xt4 => k_is)
    (case xr4 => k_is)
    (case xs4 => k_is)
    (case xg4 => k_is)
    (case xh4 => k_is)
    (case xd4 => k_is)
    (case xa4 => k_is)
    (case xm4 => k_is)
    (case xn5 => k_is)
    (case xi5 => k_exc)
    (case xk5 => k_is)
    (case xb5 => k_is)
    (case xv5 => k_is)
    (case xt5 => k_is)
    (case xr5 => k_is)
    (case xs5 => k_is)
    (case xg5 => k_is)
    (case xh5 => k_is)
    (case xd5 => k_is)
    (case xa5 => k_is)
    (case xm5 => k_is)
    (case xn6 => k_is)
    (case xi6 => k_exc)
    (case xk6 => k_is)
    (case xb6 => k_is)
    (case xv6 => k_is)
    (case xt6 => k_is)
    (case xr6 => k_is)
    (case xs6 => k_is)
    (case xg6 => k_is)
    (case xh6 => k_is)
    (case xd6 => k_is)
    (case xa6 => k_is)
    (case xm6 => k_is)
    (case xn7 => k_is)
    (case xi7 => k_exc)
    (case xk7 => k_is)
    (case xb7 => k_is)
    (case xv7 => k_is)
    (case xt7 => k_is)
    (case xr7 => k_is)
    (case xs7 => k_is)
    (case xg7 => k_is)
    (case xh7 => k_is)
    (case xd7 => k_is)
    (case xa7 => k_is)
    (case xm7 => k_is)
    (case xn8 => k_is)
    (case xi8 => k_exc)
    (case xk8 => k_is)
    (case xb8 => k_is)
    (case xv8 => k_is)
    (case xt8 => k_is)
    (case xr8 => k_is)
    (case xs8 => k_is)
    (case xg8 => k_is)
    (case xh8 => k_is)
    (case xd8 => k_is)
    (case xa8 => k_is)
    (case xm8 => k_is)
    (case xn9 => k_is)
    (case xi9 => k_exc)
    (case xk9 => k_is)
    (case xb9 => k_is)
    (case xv9 => k_is)
    (case xt9 => k_is)
    (case xr9 => k_is)
    (case xs9 => k_is)
    (case xg9 => k_is)
    (case xh9 => k_is)
    (case xd9 => k_is)
    (case xa9 => k_is)
    (case xm9 => k_is)
    (case xn10 => k_is)
    (case xi10 => k_exc)
    (case xk10 => k_is)
    (case xb10 => k_is)
    (case xv10 => k_is)
    (case xt10 => k_is)
    (case xr10 => k_is)
    (case xs10 => k_is)
    (case xg10 => k_is)
    (case xh10 => k_is)
    (case xd10 => k_is)
    (case xa10 => k_is)
    (case xm10 => k_is)
    (case q0_1 => k_is)
    (case q0_2 => k_is)
    (case q0_3 => k_is)
    (case q0_4 => k_is)
    (case q0_5 => k_is)
    (case q0_6 => k_is)
    (case q0_7 => k_is)
    (case q0_8 => k_is)
    (case q0_9 => k_is)
    (case q0_10 => k_is)
    (case q1_0 => k_is)
    (case q1_2 => k_is)
    (case q1_3 => k_is)
    (case q1_4 => k_is)
    (case q1_5 => k_is)
    (case q1_6 => k_is)
    (case q1_7 => k_is)
    (case q1_8 => k_is)
    (case q1_9 => k_is)
    (case q1_10 => k_is)
    (case q2_0 => k_is)
    (case q2_1 => k_is)
    (case q2_3 => k_is)
    (case q2_4 => k_is)
    (case q2_5 => k_is)
    (case q2_6 => k_is)
    (case q2_7 => k_is)
    (case q2_8 => k_is)
    (case q2_9 => k_is)
    (case q2_10 => k_is)
    (case q3_0 => k_is)
    (case q3_1 => k_is)
    (case q3_2 => k_is)
    (case q3_4 => k_is)
    (case q3_5 => k_is)
    (case q3_6 => k_is)
    (case q3_7 => k_is)
    (case q3_8 => k_is)
    (case q3_9 => k_is)
    (case q3_10 => k_is)
    (case q4_0 => k_is)
    (case q4_1 => k_is)
    (case q4_2 => k_is)
    (case q4_3 => k_is)
    (case q4_5 => k_is)
    (case q4_6 => k_is)
    (case q4_7 => k_is)
    (case q4_8 => k_is)
    (case q4_9 => k_is)
    (case q4_10 => k_is)
    (case q5_0 => k_is)
    (case q5_1 => k_is)
    (case q5_2 => k_is)
    (case q5_3 => k_is)
    (case q5_4 => k_is)
    (case q5_6 => k_is)
    (case q5_7 => k_is)
    (case q5_8 => k_is)
    (case q5_9 => k_is)
    (case q5_10 => k_is)
    (case q6_0 => k_is)
    (case q6_1 => k_is)
    (case q6_2 => k_is)
    (case q6_3 => k_is)
    (case q6_4 => k_is)
    (case q6_5 => k_is)
    (case q6_7 => k_is)
    (case q6_8 => k_is)
    (case q6_9 => k_is)
    (case q6_10 => k_is)
    (case q7_0 => k_is)
    (case q7_1 => k_is)
    (case q7_2 => k_is)
    (case q7_3 => k_is)
    (case q7_4 => k_is)
    (case q7_5 => k_is)
    (case q7_6 => k_is)
    (case q7_8 => k_is)
    (case q7_9 => k_is)
    (case q7_10 => k_is)
    (case q8_0 => k_is)
    (case q8_1 => k_is)
    (case q8_2 => k_is)
    (case q8_3 => k_is)
    (case q8_4 => k_is)
    (case q8_5 => k_is)
    (case q8_6 => k_is)
    (case q8_7 => k_is)
    (case q8_9 => k_is)
    (case q8_10 => k_is)
    (case q9_0 => k_is)
    (case q9_1 => k_is)
    (case q9_2 => k_is)
    (case q9_3 => k_is)
    (case q9_4 => k_is)
    (case q9_5 => k_is)
    (case q9_6 => k_is)
    (case q9_7 => k_is)
    (case q9_8 => k_is)
    (case q9_10 => k_is)
    (case q10_0 => k_is)
    (case q10_1 => k_is)
    (case q10_2 => k_is)
    (case q10_3 => k_is)
    (case q10_4 => k_is)
    (case q10_5 => k_is)
    (case q10_6 => k_is)
    (case q10_7 => k_is)
    (case q10_8 => k_is)
    (case q10_9 => k_is)
    (case z_len => k_is)
    (case z_abs => k_is)
    (case z_max => k_is)
    (case z_min => k_is)
    (case z_sum => k_is)
    (case z_sorted => k_is)
    (case z_all => k_is)
    (case z_any => k_is)
    (case z_tuple => k_is)
    (case z_list => k_is)
    (case z_int => k_is)
    (case z_bool => k_is)
    (case z_str => k_is)
    (case z_range => k_is)
    (case z_isinstance => k_is)
    (case z_zip => k_is)
    (case z_enumerate => k_is)
    (case z_set => k_is)
    (case z_dict => k_is)
