import PyProof.Rows.All
import PySem.Challenge.RW_looksfar_k01_check_task
import HandS.Conv
import HandS.Deep
import HandS.Ends
import HandS.Exc
import HandS.ExcCtx
import HandS.ExcField
import HandS.ExcIs
import HandS.ExcOwn
import HandS.Flow
import HandS.ForMost
import HandS.Hot
import HandS.HotCalls
import HandS.IsInst
import HandS.Rev
import HandS.Text
import HandS.TupAny
import HandS.Walk
import HandS.WordsExc
import HandS.Zip
import KE.DataAny
import KE.DataCmp
import KE.DataEq
import KE.DataIsa
import KE.DatumIndex
import KE.KIndexOf
import KE.SortData
import PyProof.ExcBaseAll.ValueError
import PyProof.ReprReads
section
set_option Elab.async false
set_option linter.all false
set_option maxRecDepth 100000
set_option maxHeartbeats 1000000
namespace TL
open PySem PySem.Spec PyProof.Rows L2

/-! ### new tuples whose object is known: no dict of their own, so that a method may be asked of them -/
abbrev tupO (its : List Value) : Obj := { cls := .type "tuple", data := .seq its.toArray }
abbrev tuH (its : List Value) (xs : List V) : HO := .frz (tupO its) (.tup xs)
def SqT1 (K : PySem.W.Frag) (H : Hp) (a : Addr) (xs : List V) : Prop :=
  (∃ o, H a = some (.frz o (.tup xs)) ∧ o.dict = none) ∨ ∃ (o : Obj) (its : Array Value) (n : Nat), K.lookup a = some o ∧ o.cls = .type "tuple" ∧ o.dict = none ∧ o.data = .seq its n ∧ its.size ≤ sizeLine ∧ Vals xs its.toList
theorem SqT1.t {K : PySem.W.Frag} {H : Hp} {a : Addr} {xs : List V} (h : SqT1 K H a xs) : SqT K H a xs := by
  rcases h with ⟨o, h, _⟩ | ⟨o, its, n, h1, h2, h3, h4, h5, h6⟩
  · exact .inl (.inr ⟨o, h⟩)
  · exact .inr ⟨o, its, n, h1, h2, h4, h5, h6⟩
section
variable {X : Cx} {pins : List (Addr × Obj)} {σ : L2.St} {H : Hp} {s : Shared} {a : Addr} {xs : List V}
theorem SqT1.nodict (h : SqT1 X.K H a xs) (I : Inv X pins σ H s) : ∃ o, s.heap.get? a = some o ∧ o.dict = none := by
  rcases h with ⟨o, h, d⟩ | ⟨o, its, n, h1, h2, h3, h4, h5, h6⟩
  · exact ⟨o, (I.hok a _ h).1, d⟩
  · exact ⟨o, I.kIn _ _ h1, h3⟩
theorem newTup {its : List Value} (I : Inv X pins σ H s) (r : Vals xs its) (z : xs.length ≤ sizeLine) : Inv X pins σ (upd H s.heap.objs.size (tuH its xs)) { s with heap := s.heap.push (tupO its) } ∧ H s.heap.objs.size = none :=
  ⟨I.laid (t' := s.toks) (fun _ _ q => Heap.get?_push_of_some _ q) (Nat.le_refl _) ⟨Heap.get?_push_size _ rfl, z, its, r, IsTup.new _ _⟩, I.hok.fresh (Nat.le_refl _)⟩
/-- a new tuple of xs is wanted -/
def NewT (H : Hp) (xs : List V) (Q : VK) : Prop := ∀ p its, H p = none → Q (.ref p) (upd H p (tuH its xs))
theorem newTup_ep {its : List Value} {Q : VK} (I : Inv X pins σ H s) (r : Vals xs its) (z : xs.length ≤ sizeLine) (q : NewT H xs Q) : EP X pins σ Q (.ref s.heap.objs.size) { s with heap := s.heap.push (tupO its) } := by
  obtain ⟨J, n⟩ := newTup I r z
  exact ⟨.ref s.heap.objs.size, _, J, rfl, q _ its n⟩
variable {es : List Expr} {pos : Pos}
theorem pe_tup1 {x1 : Nat} {t : TA} (h : PA X es t) : PE X (.Tuple es x1 pos) (fun σ H Q => t σ H fun xs H1 => xs.length ≤ sizeLine ∧ NewT H1 xs Q) :=
  ⟨fun pins s σ H Q I hq => wpAny_Tuple_spliced (thn (h.run pos pins s σ H _ I hq) fun us s1 ⟨xs, H1, J, r, z, q⟩ => ⟨by rw [← r.length]; exact z, newTup_ep J r z q⟩)⟩
def rCat1 (K : PySem.W.Frag) : R2 := fun x y H Q => ∃ a b xs ys, x = .ref a ∧ y = .ref b ∧ SqT K H a xs ∧ SqT K H b ys ∧ xs.length + ys.length ≤ sizeLine ∧
  (xs = [] → Q (.ref b) H) ∧ (xs ≠ [] → ys = [] → Q (.ref a) H) ∧ (xs ≠ [] → ys ≠ [] → NewT H (xs ++ ys) Q)
theorem op_cat1 : OpR X (binaryOp .Add) (rCat1 X.K) := by
  rintro pins s σ H x y v u Q I rx ry ⟨a, b, xs, ys, rfl, rfl, ha, hb, hz, q0, q1, q2⟩
  cases rx
  cases ry
  obtain ⟨i1, v1, t1, _⟩ := I.tuple ha
  obtain ⟨i2, v2, t2, _⟩ := I.tuple hb
  by_cases hx : xs = []
  · subst hx
    cases v1
    exact cat_tup0 t1 t2 ⟨.ref b, H, I, rfl, q0 rfl⟩
  · refine HT.cat_tup t1 t2 (fun z => hx (v1.nil_iff.mp z)) (fun z => ⟨.ref a, H, I, rfl, q1 hx (v2.nil_iff.mp z)⟩) (fun z => ?_) (by rw [← v1.length, ← v2.length]; exact hz)
    exact newTup_ep I (v1.append v2) (by rw [List.length_append]; exact hz) (q2 hx fun e => z (v2.nil_iff.mpr e))
def rSl1 (K : PySem.W.Frag) : V → Option Int → Option Int → Hp → VK → Prop := fun x lo hi H Q => ∃ a xs, x = .ref a ∧ SqT K H a xs ∧
  (HT.sIx xs.length 0 lo = 0 ∧ HT.sIx xs.length xs.length hi = xs.length → Q (.ref a) H) ∧ (¬ (HT.sIx xs.length 0 lo = 0 ∧ HT.sIx xs.length xs.length hi = xs.length) → NewT H (cutV xs lo hi) Q)
theorem sl_tup1 : SlR X (rSl1 X.K) := by
  rintro pins s σ H x v vl vu lo hi sl Q I rx hs pl pu ⟨a, xs, rfl, hx, q1, q2⟩
  cases rx
  obtain ⟨its, r, ht, hz⟩ := I.tuple hx
  have n : its.toArray.size = xs.length := by rw [List.size_toArray]; exact r.length.symm
  refine ⟨"tuple", _, PyProof.Rows.slot_tuple_getitem.lookup, ht.typeIs, ?_⟩
  by_cases w : HT.sIx xs.length 0 lo = 0 ∧ HT.sIx xs.length xs.length hi = xs.length
  · exact getItem_tuple_whole ht hs pl pu (by rw [n]; exact w) ⟨.ref a, H, I, rfl, q1 w⟩
  · refine HT.getItem_tuple_cut ht hs pl pu (by rw [n]; exact w) ?_ (by rw [n]; exact hz)
    rw [n]
    exact newTup_ep I ((r.drop (HT.sIx xs.length 0 lo)).take (HT.sIx xs.length xs.length hi - HT.sIx xs.length 0 lo)) (Nat.le_trans (cutV_length xs lo hi) hz) (q2 w)
theorem call_tuple1 : CallR X (.type "tuple") (fun xs H Q => ∃ p ys, xs = [.ref p] ∧ ((SqL X.K H p ys ∧ NewT H ys Q) ∨ (SqT X.K H p ys ∧ Q (.ref p) H))) := by
  rintro pins s σ H xs us Q I r ⟨p, ys, rfl, h⟩
  obtain ⟨u, rfl, rx⟩ := vals1 r
  cases rx
  rcases h with ⟨hq, q⟩ | ⟨hq, q⟩
  · obtain ⟨its, r', pl, hz⟩ := I.list hq
    refine call_tuple_list pl.isList (fun h' kp => ?_) (by rw [List.size_toArray, ← r'.length]; exact hz)
    exact newTup_ep (I.kept (t' := s.toks) kp) r' hz q
  · obtain ⟨its, r', pl, hz⟩ := I.tuple hq
    exact call_tuple_same pl ⟨.ref p, H, I, rfl, q⟩
end
end TL
end

section
set_option Elab.async false
set_option linter.all false
set_option maxRecDepth 100000
namespace TL
open PySem PySem.Spec PyProof.Rows L2

/-! ### weaker readings -/
section
variable {X : Cx}
theorem pe_mono {e : Expr} {t t' : TE} (h : PE X e t) (w : ∀ σ H Q, t' σ H Q → t σ H Q) : PE X e t' := ⟨fun pins s σ H Q I q => h.run pins s σ H Q I (w σ H Q q)⟩
theorem pt_mono {e : Expr} {t t' : TT} (h : PT X e t) (w : ∀ σ H Q, t' σ H Q → t σ H Q) : PT X e t' := ⟨fun pins s σ H Q I q => h.run pins s σ H Q I (w σ H Q q)⟩
theorem pw_mono {e : Expr} {t t' : TT} (h : PW X e t) (w : ∀ σ H Q, t' σ H Q → t σ H Q) : PW X e t' := ⟨fun wh pins s σ H Q I q => h.run wh pins s σ H Q I (w σ H Q q)⟩
theorem pa_mono {es : List Expr} {t t' : TA} (h : PA X es t) (w : ∀ σ H Q, t' σ H Q → t σ H Q) : PA X es t' := ⟨fun pos pins s σ H Q I q => h.run pos pins s σ H Q I (w σ H Q q)⟩
theorem ps_mono {st : Stmt} {t t' : TS} (h : PS X st t) (w : ∀ D σ H, t' D σ H → t D σ H) : PS X st t' := ⟨fun pins s σ H D I q => h.run pins s σ H D I (w D σ H q)⟩
theorem pss_mono {st : List Stmt} {t t' : TS} (h : PSs X st t) (w : ∀ D σ H, t' D σ H → t D σ H) : PSs X st t' := ⟨fun pins s σ H D I q => h.run pins s σ H D I (w D σ H q)⟩
end

/-! ### values, slots, cells -/
/-- what an expression gives: frozen data; a new object of its own; an object that slot i owns, looked at; a shared cell -/
inductive Vl where
  | fr (d : PyData)
  | ow (d : PyData)
  | bo (i : Nat) (d : PyData)
  | rf (k : Nat)
  | sc (ns : List Int)
  | ex (p : Option PyData)
inductive Sl where
  | un
  | fr (d : PyData)
  | ow (d : PyData)
  | rf (k : Nat)
  | sc (ns : List Int)
  | ex (p : Option PyData)
inductive Iv where
  | fr (d : PyData)
  | rf (k : Nat)
inductive Ob where
  | lst (xs : List Iv)
  | ins (c : Str) (fs : List (Str × Iv))
abbrev En := List Sl
abbrev Sto := List Ob
structure Xc where
  cls : Str
  place : Option PyData
inductive Res (α : Type) where
  | ok (a : α) (S : Sto)
  | exc (e : Xc) (S : Sto)
  | stuck
def Res.bind {α β : Type} : Res α → (α → Sto → Res β) → Res β
  | .ok a S, k => k a S
  | .exc e S, _ => .exc e S
  | .stuck, _ => .stuck
abbrev ME := En → Sto → Res Vl
abbrev MT := En → Sto → Res Bool
abbrev MA := En → Sto → Res (List Vl)
def Vl.dat : Vl → Option PyData
  | .fr d => some d
  | .ow d => some d
  | .bo _ d => some d
  | .rf _ => none
  | .sc _ => none
  | .ex _ => none

/-! ### what stands for what -/
/-- the module's written part and its names -/
structure Md where
  K : PySem.W.Frag
  mg : Str → Option Value
  hx : Option (Addr × Option Addr) := none
def SqK (K : PySem.W.Frag) (a : Addr) (xs : List V) : Prop :=
  ∃ (o : Obj) (its : Array Value) (n : Nat), K.lookup a = some o ∧ o.cls = .type "list" ∧ o.dict = none ∧ o.data = .seq its n ∧ its.size ≤ sizeLine ∧ Vals xs its.toList
/-- the script -/
def SqS (K : PySem.W.Frag) (H : Hp) (a : Addr) (xs : List V) : Prop := (∃ o, H a = some (.frz o (.lst xs))) ∨ SqK K a xs
/-- a dict that is only read -/
def DcAt (H : Hp) (a : Addr) (es : List (V × V)) : Prop := ∃ kvs : List (Key × V), H a = some (.dK kvs) ∧ es = kvs.map fun p => (kV p.1, p.2)
mutual
def Rp (K : PySem.W.Frag) (F : Addr → Prop) (H : Hp) : PyData → V → Prop
  | .none, v => v = .non
  | .bool b, v => v = .bl b
  | .int i, v => v = .int i
  | .str x, v => v = .str x
  | .list ds, v => ∃ a xs, v = .ref a ∧ (F a ∧ H a = some (.lst xs)) ∧ RpAll K F H ds xs
  | .tuple ds, v => ∃ a xs, v = .ref a ∧ SqT1 K H a xs ∧ RpAll K F H ds xs
  | .dict kvs, v => ∃ a es, v = .ref a ∧ F a ∧ DcAt H a es ∧ RpKv K F H kvs es
def RpAll (K : PySem.W.Frag) (F : Addr → Prop) (H : Hp) : List PyData → List V → Prop
  | [], vs => vs = []
  | d :: ds, vs => ∃ v r, vs = v :: r ∧ Rp K F H d v ∧ RpAll K F H ds r
def RpKv (K : PySem.W.Frag) (F : Addr → Prop) (H : Hp) : List (PyData × PyData) → List (V × V) → Prop
  | [], es => es = []
  | (k, v) :: r, es => ∃ a b t, es = (a, b) :: t ∧ Rp K F H k a ∧ Rp K F H v b ∧ RpKv K F H r t
end

/-- what an expression may do to the heap: tracked objects but the cells stay; what is frozen stays; new ones come -/
structure Mo (F : Addr → Prop) (H : Hp) (F' : Addr → Prop) (H' : Hp) : Prop where
  keepF : ∀ a o, H a = some o → F a → H' a = some o
  tups : ∀ a xs, H a = some (.tup xs) → H' a = some (.tup xs)
  frzs : ∀ a o u, H a = some (.frz o u) → H' a = some (.frz o u)
  mono : ∀ a, F a → F' a
structure EG (F : Addr → Prop) (γ : List Addr) (H : Hp) (F' : Addr → Prop) (γ' : List Addr) (H' : Hp) : Prop extends Mo F H F' H' where
  keep : ∀ a o, H a = some o → a ∉ γ → H' a = some o
  tr : ∀ a, H a ≠ none → H' a ≠ none
  fresh : ∀ a, F' a → F a ∨ H a = none
  gam : ∃ δ, γ' = γ ++ δ ∧ ∀ a ∈ δ, H a = none
section
variable {K : PySem.W.Frag} {F F' F2 : Addr → Prop} {γ γ' γ2 : List Addr} {H H' H2 : Hp}
theorem EG.refl : EG F γ H F γ H := ⟨⟨fun _ _ h _ => h, fun _ _ h => h, fun _ _ _ h => h, fun _ h => h⟩, fun _ _ h _ => h, fun _ h => h, fun _ h => .inl h, [], by simp, by simp⟩
theorem EG.back (e : EG F γ H F' γ' H') {a : Addr} (h : H' a = none) : H a = none := Classical.byContradiction fun n => e.tr a n h
theorem EG.trans (e : EG F γ H F' γ' H') (e2 : EG F' γ' H' F2 γ2 H2) : EG F γ H F2 γ2 H2 := by
  obtain ⟨δ, eg, ed⟩ := e.gam
  obtain ⟨δ2, eg2, ed2⟩ := e2.gam
  refine ⟨⟨fun a o h f => e2.keepF a o (e.keepF a o h f) (e.mono a f), fun a xs h => e2.tups a xs (e.tups a xs h), fun a o u h => e2.frzs a o u (e.frzs a o u h), fun a h => e2.mono a (e.mono a h)⟩, fun a o h n => e2.keep a o (e.keep a o h n) ?_, fun a h => e2.tr a (e.tr a h), fun a h => ?_, δ ++ δ2, by rw [eg2, eg, List.append_assoc], fun a h => ?_⟩
  · rw [eg, List.mem_append]
    rintro (z | z)
    · exact n z
    · rw [ed a z] at h; cases h
  · rcases e2.fresh a h with z | z
    · exact e.fresh a z
    · exact .inr (e.back z)
  · rcases List.mem_append.mp h with z | z
    · exact ed a z
    · exact e.back (ed2 a z)
theorem Mo.sc (e : Mo F H F' H') {a : Addr} {xs : List V} (h : SqS K H a xs) : SqS K H' a xs := h.imp (fun ⟨o, q⟩ => ⟨o, e.frzs a o _ q⟩) id
theorem Mo.sqT (e : Mo F H F' H') {a : Addr} {xs : List V} (h : SqT1 K H a xs) : SqT1 K H' a xs := h.imp (fun ⟨o, h, d⟩ => ⟨o, e.frzs a o _ h, d⟩) id
theorem Mo.dc (e : Mo F H F' H') {a : Addr} {es : List (V × V)} (f : F a) (h : DcAt H a es) : DcAt H' a es := by
  obtain ⟨kvs, h, q⟩ := h
  exact ⟨kvs, e.keepF a _ h f, q⟩
mutual
theorem Rp.mono (e : Mo F H F' H') : ∀ (d : PyData) (v : V), Rp K F H d v → Rp K F' H' d v
  | .none, v, h => by simpa [Rp] using h
  | .bool b, v, h => by simpa [Rp] using h
  | .int i, v, h => by simpa [Rp] using h
  | .str x, v, h => by simpa [Rp] using h
  | .list ds, v, h => by
    simp only [Rp] at h ⊢
    obtain ⟨a, xs, rfl, h1, h2⟩ := h
    exact ⟨a, xs, rfl, ⟨e.mono a h1.1, e.keepF a _ h1.2 h1.1⟩, RpAll.mono e ds xs h2⟩
  | .tuple ds, v, h => by
    simp only [Rp] at h ⊢
    obtain ⟨a, xs, rfl, h1, h2⟩ := h
    exact ⟨a, xs, rfl, e.sqT h1, RpAll.mono e ds xs h2⟩
  | .dict kvs, v, h => by
    simp only [Rp] at h ⊢
    obtain ⟨a, es, rfl, f, h1, h2⟩ := h
    exact ⟨a, es, rfl, e.mono a f, e.dc f h1, RpKv.mono e kvs es h2⟩
theorem RpAll.mono (e : Mo F H F' H') : ∀ (ds : List PyData) (vs : List V), RpAll K F H ds vs → RpAll K F' H' ds vs
  | [], vs, h => by simpa [RpAll] using h
  | d :: ds, vs, h => by
    simp only [RpAll] at h ⊢
    obtain ⟨v, r, rfl, h1, h2⟩ := h
    exact ⟨v, r, rfl, Rp.mono e d v h1, RpAll.mono e ds r h2⟩
theorem RpKv.mono (e : Mo F H F' H') : ∀ (ds : List (PyData × PyData)) (vs : List (V × V)), RpKv K F H ds vs → RpKv K F' H' ds vs
  | [], vs, h => by simpa [RpKv] using h
  | (k, d) :: ds, vs, h => by
    simp only [RpKv] at h ⊢
    obtain ⟨a, b, r, rfl, h1, h2, h3⟩ := h
    exact ⟨a, b, r, rfl, Rp.mono e k a h1, Rp.mono e d b h2, RpKv.mono e ds r h3⟩
end
end

/-- the object at a, whose items are frozen -/
def Ow (K : PySem.W.Frag) (F : Addr → Prop) (H : Hp) (d : PyData) (a : Addr) : Prop :=
  match d with
  | .list ds => ∃ xs, H a = some (.lst xs) ∧ RpAll K F H ds xs
  | .dict kvs => ∃ es, DcAt H a es ∧ RpKv K F H kvs es
  | _ => False
def IvR (K : PySem.W.Frag) (F : Addr → Prop) (H : Hp) (γ : List Addr) : Iv → V → Prop
  | .fr d, v => Rp K F H d v
  | .rf k, v => ∃ a, γ[k]? = some a ∧ v = .ref a
def ObR (M : Md) (F : Addr → Prop) (H : Hp) (γ : List Addr) : Ob → Addr → Prop
  | .lst xs, a => ∃ vs, H a = some (.lst vs) ∧ Paired (IvR M.K F H γ) xs vs
  | .ins c fs, a => ∃ C dx vfs, M.mg c = some (.ref C) ∧ H a = some (.ins C dx vfs) ∧ Paired (fun (p : Str × Iv) (q : Str × V) => p.1 = q.1 ∧ IvR M.K F H γ p.2 q.2) fs vfs
/-- the exception that is handled -/
def ExR (M : Md) (F : Addr → Prop) (γ : List Addr) (H : Hp) (p : Option PyData) (u : V) : Prop :=
  ∃ a d, (M.hx = some (a, d) ∧ (p = none → d = none)) ∧ u = .ref a ∧ ∀ q, p = some q → ∃ dd v, d = some dd ∧ dd ∉ γ ∧ H dd = some (.xd [("place", v)]) ∧ Rp M.K F H q v
/-- the value that an expression gave: H0 the heap ahead of it -/
def VR (M : Md) (own : Addr → Option Nat) (H0 : Hp) (F : Addr → Prop) (γ : List Addr) (H : Hp) : Vl → V → Prop
  | .fr d, u => Rp M.K F H d u
  | .ow d, u => ∃ p, u = .ref p ∧ ¬ F p ∧ own p = none ∧ p ∉ γ ∧ H0 p = none ∧ Ow M.K F H d p
  | .bo i d, u => ∃ p, u = .ref p ∧ ¬ F p ∧ own p = some i ∧ p ∉ γ ∧ Ow M.K F H d p
  | .rf k, u => ∃ p, u = .ref p ∧ γ[k]? = some p
  | .sc ns, u => ∃ p, u = .ref p ∧ SqS M.K H p (ns.map .int)
  | .ex p, u => ExR M F γ H p u
def SlR (M : Md) (own : Addr → Option Nat) (F : Addr → Prop) (γ : List Addr) (H : Hp) (i : Nat) : Sl → Option V → Prop
  | .un, _ => True
  | .fr d, o => ∃ u, o = some u ∧ Rp M.K F H d u
  | .ow d, o => ∃ p, o = some (.ref p) ∧ own p = some i ∧ Ow M.K F H d p
  | .rf k, o => ∃ p, o = some (.ref p) ∧ γ[k]? = some p
  | .sc ns, o => ∃ p, o = some (.ref p) ∧ SqS M.K H p (ns.map .int)
  | .ex p, o => ∃ u, o = some u ∧ ExR M F γ H p u
structure CR2 (M : Md) (F : Addr → Prop) (γ : List Addr) (H : Hp) (S : Sto) : Prop where
  ft : ∀ a, F a → H a ≠ none
  len : γ.length = S.length
  nd : γ.Nodup
  nF : ∀ a ∈ γ, ¬ F a ∧ H a ≠ none
  cell : ∀ (k : Nat) (ob : Ob) (a : Addr), S[k]? = some ob → γ[k]? = some a → ObR M F H γ ob a
structure ER (M : Md) (own : Addr → Option Nat) (F : Addr → Prop) (γ : List Addr) (H : Hp) (env : En) (σ : L2.St) (S : Sto) : Prop where
  len : env.length = σ.length
  slot : ∀ (i : Nat) (s : Sl) (o : Option V), env[i]? = some s → σ[i]? = some o → SlR M own F γ H i s o
  own : ∀ a i, own a = some i → ¬ F a ∧ a ∉ γ ∧ H a ≠ none
  c : CR2 M F γ H S
def XR (M : Md) (F : Addr → Prop) (H : Hp) (e : Xc) (cls : Value) (d : Option Addr) : Prop :=
  M.mg e.cls = some cls ∧ match e.place with
    | none => d = none
    | some p => ∃ a v, d = some a ∧ H a = some (.xd [("place", v)]) ∧ Rp M.K F H p v

/-! ### the readings -/
def KX (M : Md) (W : WX) (own : Addr → Option Nat) (F : Addr → Prop) (γ : List Addr) (H : Hp) (env : En) (σ : L2.St) (e : Xc) (S' : Sto) : Prop :=
  ∀ F' γ' H' cls d, EG F γ H F' γ' H' → ER M own F' γ' H' env σ S' → XR M F' H' e cls d → W cls d σ H'
def KG {α : Type} (M : Md) (W : WX) (own : Addr → Option Nat) (F : Addr → Prop) (γ : List Addr) (H : Hp) (env : En) (σ : L2.St) (r : Res α) (P : α → (Addr → Prop) → List Addr → Hp → Sto → Prop) : Prop :=
  match r with
  | .ok a S' => ∀ F' γ' H', EG F γ H F' γ' H' → ER M own F' γ' H' env σ S' → P a F' γ' H' S'
  | .exc e S' => KX M W own F γ H env σ e S'
  | .stuck => False
abbrev KE (M : Md) (W : WX) (own : Addr → Option Nat) (F : Addr → Prop) (γ : List Addr) (H : Hp) (env : En) (σ : L2.St) (r : Res Vl) (Q : VK) : Prop :=
  KG M W own F γ H env σ r fun r F' γ' H' _ => ∀ u, VR M own H F' γ' H' r u → Q u H'
abbrev KT (M : Md) (W : WX) (own : Addr → Option Nat) (F : Addr → Prop) (γ : List Addr) (H : Hp) (env : En) (σ : L2.St) (r : Res Bool) (Q : Bool → Hp → Prop) : Prop :=
  KG M W own F γ H env σ r fun b _ _ H' _ => Q b H'
abbrev KA (M : Md) (W : WX) (own : Addr → Option Nat) (F : Addr → Prop) (γ : List Addr) (H : Hp) (env : En) (σ : L2.St) (r : Res (List Vl)) (Q : List V → Hp → Prop) : Prop :=
  KG M W own F γ H env σ r fun rs F' γ' H' _ => ∀ us, Paired (VR M own H F' γ' H') rs us → Q us H'
/-- an expression that does as m does -/
def tE (M : Md) (W : WX) (m : ME) : TE := fun σ H Q => ∃ own F γ env S, ER M own F γ H env σ S ∧ KE M W own F γ H env σ (m env S) Q
def tT (M : Md) (W : WX) (m : MT) : TT := fun σ H Q => ∃ own F γ env S, ER M own F γ H env σ S ∧ KT M W own F γ H env σ (m env S) Q
def tA (M : Md) (W : WX) (m : MA) : TA := fun σ H Q => ∃ own F γ env S, ER M own F γ H env σ S ∧ KA M W own F γ H env σ (m env S) Q

section
variable {M : Md} {W : WX} {own : Addr → Option Nat} {F F' F1 F2 : Addr → Prop} {γ γ' γ1 γ2 : List Addr} {H H' H0 H1 H2 : Hp} {env : En} {σ : L2.St} {S S' S1 : Sto} {r : Vl} {u : V} {Q : VK}
theorem EG.get (e : EG F γ H F' γ' H') {k : Nat} {a : Addr} (h : γ[k]? = some a) : γ'[k]? = some a := by
  obtain ⟨δ, rfl, _⟩ := e.gam
  rw [List.getElem?_append_left (List.getElem?_eq_some_iff.mp h).1]
  exact h
theorem EG.nin (e : EG F γ H F' γ' H') {a : Addr} (h : H a ≠ none) (n : a ∉ γ) : a ∉ γ' := by
  obtain ⟨δ, rfl, d⟩ := e.gam
  rw [List.mem_append]
  rintro (z | z)
  · exact n z
  · exact h (d a z)
theorem EG.nF (e : EG F γ H F' γ' H') {a : Addr} (h : H a ≠ none) (n : ¬ F a) : ¬ F' a := fun z => (e.fresh a z).elim n h
theorem Ow.mono (e : Mo F H F' H') {d : PyData} {p : Addr} {K : PySem.W.Frag} (k : ∀ o, H p = some o → H' p = some o) (h : Ow K F H d p) : Ow K F' H' d p := by
  cases d with
  | list ds =>
    obtain ⟨xs, h1, h2⟩ := h
    exact ⟨xs, k _ h1, RpAll.mono e ds xs h2⟩
  | dict kvs =>
    obtain ⟨es, ⟨ks, h1, h3⟩, h2⟩ := h
    exact ⟨es, ⟨ks, k _ h1, h3⟩, RpKv.mono e kvs es h2⟩
  | _ => exact h.elim
theorem Ow.there {d : PyData} {p : Addr} {K : PySem.W.Frag} (h : Ow K F H d p) : H p ≠ none := by
  cases d with
  | list ds =>
    obtain ⟨xs, h1, h2⟩ := h
    rw [h1]; exact fun z => nomatch z
  | dict kvs =>
    obtain ⟨es, ⟨ks, h1, h3⟩, h2⟩ := h
    rw [h1]; exact fun z => nomatch z
  | _ => exact h.elim
theorem ExR.mono {p : Option PyData} (e : EG F γ H F' γ' H') (h : ExR M F γ H p u) : ExR M F' γ' H' p u := by
  obtain ⟨a, d, h1, h2, h3⟩ := h
  refine ⟨a, d, h1, h2, fun q hq => ?_⟩
  obtain ⟨dd, v, g1, g2, g3, g4⟩ := h3 q hq
  exact ⟨dd, v, g1, e.nin (by rw [g3]; exact fun z => nomatch z) g2, e.keep dd _ g3 g2, Rp.mono e.toMo q v g4⟩
theorem VR.mono (e : EG F γ H F' γ' H') (h : VR M own H0 F γ H r u) : VR M own H0 F' γ' H' r u := by
  cases r with
  | fr d => exact Rp.mono e.toMo d u h
  | ow d =>
    obtain ⟨p, rfl, h1, h2, h3, h4, h5⟩ := h
    have t := h5.there
    exact ⟨p, rfl, e.nF t h1, h2, e.nin t h3, h4, h5.mono e.toMo fun o q => e.keep p o q h3⟩
  | bo i d =>
    obtain ⟨p, rfl, h1, h2, h3, h5⟩ := h
    have t := h5.there
    exact ⟨p, rfl, e.nF t h1, h2, e.nin t h3, h5.mono e.toMo fun o q => e.keep p o q h3⟩
  | rf k =>
    obtain ⟨p, rfl, h1⟩ := h
    exact ⟨p, rfl, e.get h1⟩
  | sc ns =>
    obtain ⟨p, rfl, h1⟩ := h
    exact ⟨p, rfl, e.sc h1⟩
  | ex p => exact ExR.mono e h
theorem VR.back (e : EG F γ H F1 γ1 H1) (h : VR M own H1 F' γ' H' r u) : VR M own H F' γ' H' r u := by
  cases r with
  | ow d =>
    obtain ⟨p, rfl, h1, h2, h3, h4, h5⟩ := h
    exact ⟨p, rfl, h1, h2, h3, e.back h4, h5⟩
  | _ => exact h
theorem Paired.mapR {α β : Type} {A B : α → β → Prop} (f : ∀ a b, A a b → B a b) : ∀ {xs : List α} {ys : List β}, Paired A xs ys → Paired B xs ys
  | _, _, .nil => .nil
  | _, _, .cons h t => .cons (f _ _ h) (Paired.mapR f t)
theorem IvR.mono {K : PySem.W.Frag} {i : Iv} {v : V} (e : EG F γ H F' γ' H') (h : IvR K F H γ i v) : IvR K F' H' γ' i v := by
  cases i with
  | fr d => exact Rp.mono e.toMo d v h
  | rf k =>
    obtain ⟨a, h1, h2⟩ := h
    exact ⟨a, e.get h1, h2⟩
theorem ObR.mono {ob : Ob} {a : Addr} (e : EG F γ H F' γ' H') (k : H' a = H a) (h : ObR M F H γ ob a) : ObR M F' H' γ' ob a := by
  cases ob with
  | lst xs =>
    obtain ⟨vs, h1, h2⟩ := h
    exact ⟨vs, by rw [k]; exact h1, Paired.mapR (fun _ _ => IvR.mono e) h2⟩
  | ins c fs =>
    obtain ⟨C, dx, vfs, h1, h2, h3⟩ := h
    exact ⟨C, dx, vfs, h1, by rw [k]; exact h2, Paired.mapR (fun _ _ q => ⟨q.1, q.2.mono e⟩) h3⟩
theorem SlR.mono {i : Nat} {s : Sl} {o : Option V} (e : EG F γ H F' γ' H') (ow : ∀ a i, own a = some i → ¬ F a ∧ a ∉ γ ∧ H a ≠ none) (h : SlR M own F γ H i s o) : SlR M own F' γ' H' i s o := by
  cases s with
  | un => trivial
  | fr d =>
    obtain ⟨u, rfl, h⟩ := h
    exact ⟨u, rfl, Rp.mono e.toMo d u h⟩
  | ow d =>
    obtain ⟨p, rfl, h1, h2⟩ := h
    exact ⟨p, rfl, h1, h2.mono e.toMo fun o q => e.keep p o q (ow p i h1).2.1⟩
  | rf k =>
    obtain ⟨p, rfl, h1⟩ := h
    exact ⟨p, rfl, e.get h1⟩
  | sc ns =>
    obtain ⟨p, rfl, h1⟩ := h
    exact ⟨p, rfl, e.sc h1⟩
  | ex p =>
    obtain ⟨u, rfl, h⟩ := h
    exact ⟨u, rfl, h.mono e⟩
/-- nothing but growth: the cells as they were -/
theorem CR2.grow (c : CR2 M F γ H S) (e : EG F γ H F' γ H') (k : ∀ a ∈ γ, H' a = H a) (ft : ∀ a, F' a → H' a ≠ none) : CR2 M F' γ H' S :=
  ⟨ft, c.len, c.nd, fun a h => ⟨e.nF (c.nF a h).2 (c.nF a h).1, e.tr a (c.nF a h).2⟩, fun i ob a h1 h2 => (c.cell i ob a h1 h2).mono e (k a (List.mem_of_getElem? h2))⟩
theorem ER.grow (h : ER M own F γ H env σ S) (e : EG F γ H F' γ H') (k : ∀ a ∈ γ, H' a = H a) (ft : ∀ a, F' a → H' a ≠ none) : ER M own F' γ H' env σ S :=
  ⟨h.len, fun i s o h1 h2 => (h.slot i s o h1 h2).mono e h.own, fun a i q => ⟨e.nF (h.own a i q).2.2 (h.own a i q).1, (h.own a i q).2.1, e.tr a (h.own a i q).2.2⟩, h.c.grow e k ft⟩
/-- a new object that is not frozen -/
theorem EG.new {p : Addr} {o : HO} (hp : H p = none) : EG F γ H F γ (upd H p o) :=
  ⟨⟨fun a u h _ => by rw [upd_ne (ne_of_none h hp)]; exact h, fun a u h => by rw [upd_ne (ne_of_none h hp)]; exact h, fun a u v h => by rw [upd_ne (ne_of_none h hp)]; exact h, fun _ h => h⟩,
    fun a u h _ => by rw [upd_ne (ne_of_none h hp)]; exact h, fun a h => by
      by_cases e : a = p
      · subst e; exact absurd hp h
      · rw [upd_ne e]; exact h, fun _ h => .inl h, [], by simp, by simp⟩
theorem ER.new {p : Addr} {o : HO} (h : ER M own F γ H env σ S) (hp : H p = none) : ER M own F γ (upd H p o) env σ S :=
  h.grow (EG.new hp) (fun a m => upd_ne fun e => (h.c.nF a m).2 (by rw [e]; exact hp)) fun a f => (EG.new (γ := γ) (F := F) hp).tr a (h.c.ft a f)
theorem ER.pF {p : Addr} (h : ER M own F γ H env σ S) (hp : H p = none) : ¬ F p := fun f => h.c.ft p f hp
theorem ER.pO {p : Addr} (h : ER M own F γ H env σ S) (hp : H p = none) : own p = none := by
  cases e : own p with
  | none => rfl
  | some i => exact absurd hp (h.own p i e).2.2
theorem ER.pG {p : Addr} (h : ER M own F γ H env σ S) (hp : H p = none) : p ∉ γ := fun m => (h.c.nF p m).2 hp
/-- objects that no slot owns and that are no cells are frozen -/
theorem Mo.addF {P : Addr → Prop} : Mo F H (fun a => F a ∨ P a) H := ⟨fun _ _ q _ => q, fun _ _ q => q, fun _ _ _ q => q, fun _ q => .inl q⟩
theorem IvR.addF {P : Addr → Prop} {K : PySem.W.Frag} (m : Mo F H F2 H) (i : Iv) (v : V) (q : IvR K F H γ i v) : IvR K F2 H γ i v := by
  cases i with
  | fr d => exact Rp.mono m d v q
  | rf k => exact q
theorem CR2.addF {P : Addr → Prop} (h : CR2 M F γ H S) (hP : ∀ a, P a → a ∉ γ ∧ H a ≠ none) : CR2 M (fun a => F a ∨ P a) γ H S := by
  have mo : Mo F H (fun a => F a ∨ P a) H := Mo.addF
  refine ⟨fun a z => z.elim (h.ft a) fun z => (hP a z).2, h.len, h.nd, fun a m => ⟨fun z => z.elim (h.nF a m).1 fun z => (hP a z).1 m, (h.nF a m).2⟩, fun k ob a q1 q2 => ?_⟩
  have q := h.cell k ob a q1 q2
  cases ob with
  | lst xs =>
    obtain ⟨vs, q3, q4⟩ := q
    exact ⟨vs, q3, Paired.mapR (IvR.addF (P := P) mo) q4⟩
  | ins c fs =>
    obtain ⟨C, dx, vfs, q3, q4, q5⟩ := q
    exact ⟨C, dx, vfs, q3, q4, Paired.mapR (fun _ _ z => ⟨z.1, IvR.addF (P := P) mo _ _ z.2⟩) q5⟩
theorem ExR.addF {F2 : Addr → Prop} {p : Option PyData} (m : Mo F H F2 H) (h : ExR M F γ H p u) : ExR M F2 γ H p u := by
  obtain ⟨a, d, h1, h2, h3⟩ := h
  refine ⟨a, d, h1, h2, fun q hq => ?_⟩
  obtain ⟨dd, v, g1, g2, g3, g4⟩ := h3 q hq
  exact ⟨dd, v, g1, g2, g3, Rp.mono m q v g4⟩
theorem SlR.addF {P : Addr → Prop} {i : Nat} {s : Sl} {o : Option V} (q : SlR M own F γ H i s o) : SlR M own (fun a => F a ∨ P a) γ H i s o := by
  have mo : Mo F H (fun a => F a ∨ P a) H := Mo.addF
  cases s with
  | un => trivial
  | fr d =>
    obtain ⟨u, rfl, q⟩ := q
    exact ⟨u, rfl, Rp.mono mo d u q⟩
  | ow d =>
    obtain ⟨p', rfl, q, q'⟩ := q
    exact ⟨p', rfl, q, q'.mono mo fun _ z => z⟩
  | rf k => exact q
  | sc ns => exact q
  | ex p =>
    obtain ⟨u, rfl, q⟩ := q
    exact ⟨u, rfl, q.addF mo⟩
theorem ER.addF {P : Addr → Prop} (h : ER M own F γ H env σ S) (hP : ∀ a, P a → own a = none ∧ a ∉ γ ∧ H a ≠ none) : ER M own (fun a => F a ∨ P a) γ H env σ S := by
  refine ⟨h.len, fun i s o q1 q2 => (h.slot i s o q1 q2).addF, fun a i q => ⟨fun z => z.elim (h.own a i q).1 fun z => ?_, (h.own a i q).2.1, (h.own a i q).2.2⟩, h.c.addF fun a z => (hP a z).2⟩
  rw [(hP a z).1] at q; cases q
/-- a value that is not some slot's is frozen -/
theorem Ow.frz {d : PyData} {p : Addr} {K : PySem.W.Frag} (mo : Mo F H F2 H) (f : F2 p) (h5 : Ow K F H d p) : Rp K F2 H d (.ref p) := by
  cases d with
  | list ds =>
    obtain ⟨xs, q1, q2⟩ := h5
    simp only [Rp]
    exact ⟨p, xs, rfl, ⟨f, q1⟩, RpAll.mono mo ds xs q2⟩
  | dict kvs =>
    obtain ⟨es, q1, q2⟩ := h5
    simp only [Rp]
    exact ⟨p, es, rfl, f, q1, RpKv.mono mo kvs es q2⟩
  | _ => exact h5.elim
theorem ER.freeze {d : PyData} (h : ER M own F γ H env σ S) (v : VR M own H0 F γ H r u) (hd : r.dat = some d) (nb : ∀ i d, r ≠ .bo i d) :
    ∃ F2, Mo F H F2 H ∧ ER M own F2 γ H env σ S ∧ Rp M.K F2 H d u ∧ ∀ a, F2 a → F a ∨ H0 a = none := by
  cases r with
  | fr d' =>
    cases hd
    exact ⟨F, ⟨fun _ _ q _ => q, fun _ _ q => q, fun _ _ _ q => q, fun _ q => q⟩, h, v, fun _ q => .inl q⟩
  | bo i d' => exact absurd rfl (nb i d')
  | rf k => cases hd
  | sc ns => cases hd
  | ex p => cases hd
  | ow d' =>
    cases hd
    obtain ⟨p, rfl, h1, h2, h3, h4, h5⟩ := v
    exact ⟨fun a => F a ∨ a = p, Mo.addF, h.addF fun a e => by rw [e]; exact ⟨h2, h3, h5.there⟩, h5.frz Mo.addF (.inr rfl), fun a z => z.imp id fun e => by rw [e]; exact h4⟩
/-- .. as a step from the start -/
theorem EG.frz (e : EG F γ H F1 γ1 H1) (m : Mo F1 H1 F2 H1) (f : ∀ a, F2 a → F1 a ∨ H a = none) : EG F γ H F2 γ1 H1 :=
  ⟨⟨e.keepF, e.tups, e.frzs, fun a h => m.mono a (e.mono a h)⟩, e.keep, e.tr, fun a h => (f a h).elim (e.fresh a) .inr, e.gam⟩

/-! ### sequences -/
theorem KX.step {e : Xc} (g : EG F γ H F1 γ1 H1) (h : KX M W own F γ H env σ e S) : KX M W own F1 γ1 H1 env σ e S :=
  fun F' γ' H' cls d e' er x => h F' γ' H' cls d (g.trans e') er x
theorem KG_bindE {α : Type} {P : α → (Addr → Prop) → List Addr → Hp → Sto → Prop} {x : Res Vl} {f : Vl → Sto → Res α} (g : EG F γ H F1 γ1 H1) (h : KG M W own F γ H env σ (x.bind f) P) :
    KE M W own F1 γ1 H1 env σ x fun v H2 => ∃ F2 γ2 S2 s, EG F1 γ1 H1 F2 γ2 H2 ∧ EG F γ H F2 γ2 H2 ∧ ER M own F2 γ2 H2 env σ S2 ∧ VR M own H F2 γ2 H2 s v ∧ VR M own H1 F2 γ2 H2 s v ∧ KG M W own F γ H env σ (f s S2) P := by
  cases x with
  | ok r S' => exact fun F' γ' H' e er u vr => ⟨F', γ', S', r, e, g.trans e, er, vr.back g, vr, h⟩
  | exc e S' => exact KX.step g h
  | stuck => exact h
theorem KG_bindT {α : Type} {P : α → (Addr → Prop) → List Addr → Hp → Sto → Prop} {x : Res Bool} {f : Bool → Sto → Res α} (g : EG F γ H F1 γ1 H1) (h : KG M W own F γ H env σ (x.bind f) P) :
    KT M W own F1 γ1 H1 env σ x fun b H2 => ∃ F2 γ2 S2, EG F1 γ1 H1 F2 γ2 H2 ∧ EG F γ H F2 γ2 H2 ∧ ER M own F2 γ2 H2 env σ S2 ∧ KG M W own F γ H env σ (f b S2) P := by
  cases x with
  | ok r S' => exact fun F' γ' H' e er => ⟨F', γ', S', e, g.trans e, er, h⟩
  | exc e S' => exact KX.step g h
  | stuck => exact h
theorem KG_bindA {α : Type} {P : α → (Addr → Prop) → List Addr → Hp → Sto → Prop} {x : Res (List Vl)} {f : List Vl → Sto → Res α} (g : EG F γ H F1 γ1 H1) (h : KG M W own F γ H env σ (x.bind f) P) :
    KA M W own F1 γ1 H1 env σ x fun vs H2 => ∃ F2 γ2 S2 rs, EG F1 γ1 H1 F2 γ2 H2 ∧ EG F γ H F2 γ2 H2 ∧ ER M own F2 γ2 H2 env σ S2 ∧ Paired (VR M own H F2 γ2 H2) rs vs ∧ Paired (VR M own H1 F2 γ2 H2) rs vs ∧ KG M W own F γ H env σ (f rs S2) P := by
  cases x with
  | ok r S' => exact fun F' γ' H' e er us vr => ⟨F', γ', S', r, e, g.trans e, er, Paired.mapR (fun _ _ q => VR.back g q) vr, vr, h⟩
  | exc e S' => exact KX.step g h
  | stuck => exact h
end
end TL
end

section
set_option Elab.async false
set_option linter.all false
set_option maxRecDepth 100000
set_option maxHeartbeats 1000000
namespace TL
open PySem PySem.Spec PyProof.Rows L2

/-! ### the context -/
def Mode (X : Cx) : Prop := X.calm = true ∨ L2H.HotC X
/-- the exception that is handled, with its dict -/
def hxOf (X : Cx) : Option (Addr × Option Addr) := if X.calm = true then none else match X.A.handled with
  | some (.ref a) => (X.pn.find? fun p => p.1 == a).map fun p => (a, p.2.dict)
  | _ => none
abbrev md (X : Cx) : Md := ⟨X.K, X.mg, hxOf X⟩
/-- V: the names by slot, "" where a name is not to be seen; G: names of the module and of the built-ins; B: built-ins that the module leaves -/
structure Pg where
  prog : Program
  w : World
  K : PySem.W.Frag
  mg : Str → Option Value
  base : Heap
abbrev pgOf (X : Cx) : Pg := ⟨X.prog, X.w, X.K, X.mg, X.base⟩
structure Ct (P : Pg) (W : WX) (N Nv G : List Str) (ls : List Nat) (k : Nat) (X : Cx) : Prop where
  pg : pgOf X = P
  hN : X.N = N
  nd : N.Nodup
  vis : ∀ (i : Nat) (x : Str), Nv[i]? = some x → (x == "") = false → N[i]? = some x ∧ Vis X.env.scope x
  glo : ∀ (i : Nat) (x : Str), G[i]? = some x → Gl X x
  loc : ∀ i ∈ ls, ∀ x, N[i]? = some x → Loc X.env.scope x ∧ (X.fn x = true ∨ X.env.scope.names.lookup x = some .local)
  tk : L2N.Takes X W
  mo : Mode X
  gu : X.A.guards = some []
  rm : L2H.RoomH k X.A
  hp : PassesOwn (model X.prog X.w) X.A X.env X.xe
def ES (X : Cx) (W : WX) (e : Expr) (m : ME) : Prop := PE X e (tE (md X) W m)
def ET (X : Cx) (W : WX) (e : Expr) (m : MT) : Prop := PT X e (tT (md X) W m)
def EW (X : Cx) (W : WX) (e : Expr) (m : MT) : Prop := PW X e (tT (md X) W m)
def EA (X : Cx) (W : WX) (es : List Expr) (m : MA) : Prop := PA X es (tA (md X) W m)

section
variable {X : Cx} {W : WX} {N Nv G : List Str} {ls : List Nat} {P : Pg} {k : Nat} {M : Md} {own : Addr → Option Nat} {F F' F1 F2 : Addr → Prop} {γ γ' γ1 γ2 : List Addr} {H H' H0 H1 H2 : Hp} {env : En} {σ : L2.St} {S S' S1 : Sto} {r : Vl} {u : V} {Q : VK}
variable {a b c e : Expr} {es : List Expr} {ma mb mc : ME} {mt mu : MT} {pos : Pos}

/-! ### reading values -/
theorem VR.scal {d : PyData} (h : VR M own H0 F γ H r u) (hd : r.dat = some d) (nl : ∀ ds, d ≠ .list ds) (nk : ∀ ks, d ≠ .dict ks) : Rp M.K F H d u := by
  cases r with
  | fr d' => cases hd; exact h
  | ow d' =>
    cases hd
    obtain ⟨p, rfl, _, _, _, _, h5⟩ := h
    cases d with
    | list ds => exact absurd rfl (nl ds)
    | dict ks => exact absurd rfl (nk ks)
    | _ => exact h5.elim
  | bo i d' =>
    cases hd
    obtain ⟨p, rfl, _, _, _, h5⟩ := h
    cases d with
    | list ds => exact absurd rfl (nl ds)
    | dict ks => exact absurd rfl (nk ks)
    | _ => exact h5.elim
  | rf k => cases hd
  | sc ns => cases hd
  | ex p => cases hd
theorem VR.int {i : Int} (h : VR M own H0 F γ H r u) (hd : r.dat = some (.int i)) : u = .int i := by
  simpa [Rp] using h.scal hd (fun _ z => nomatch z) (fun _ z => nomatch z)
theorem VR.bl {i : Bool} (h : VR M own H0 F γ H r u) (hd : r.dat = some (.bool i)) : u = .bl i := by
  simpa [Rp] using h.scal hd (fun _ z => nomatch z) (fun _ z => nomatch z)
theorem VR.str {i : Str} (h : VR M own H0 F γ H r u) (hd : r.dat = some (.str i)) : u = .str i := by
  simpa [Rp] using h.scal hd (fun _ z => nomatch z) (fun _ z => nomatch z)
theorem VR.non (h : VR M own H0 F γ H r u) (hd : r.dat = some .none) : u = .non := by
  simpa [Rp] using h.scal hd (fun _ z => nomatch z) (fun _ z => nomatch z)
theorem VR.tup {ds : List PyData} (h : VR M own H0 F γ H r u) (hd : r.dat = some (.tuple ds)) : ∃ a xs, u = .ref a ∧ SqT1 M.K H a xs ∧ RpAll M.K F H ds xs := by
  simpa [Rp] using h.scal hd (fun _ z => nomatch z) (fun _ z => nomatch z)
theorem VR.lst {ds : List PyData} (h : VR M own H0 F γ H r u) (hd : r.dat = some (.list ds)) : ∃ a xs, u = .ref a ∧ H a = some (.lst xs) ∧ RpAll M.K F H ds xs := by
  cases r with
  | fr d' =>
    cases hd
    have h : Rp M.K F H (.list ds) u := h
    simp only [Rp] at h
    obtain ⟨a, xs, rfl, ⟨_, h1⟩, h2⟩ := h
    exact ⟨a, xs, rfl, h1, h2⟩
  | ow d' =>
    cases hd
    obtain ⟨p, rfl, _, _, _, _, xs, h1, h2⟩ := h
    exact ⟨p, xs, rfl, h1, h2⟩
  | bo i d' =>
    cases hd
    obtain ⟨p, rfl, _, _, _, xs, h1, h2⟩ := h
    exact ⟨p, xs, rfl, h1, h2⟩
  | rf k => cases hd
  | sc ns => cases hd
  | ex p => cases hd
theorem RpAll.length {K : PySem.W.Frag} : ∀ {ds : List PyData} {vs : List V}, RpAll K F H ds vs → ds.length = vs.length
  | [], vs, h => by simp only [RpAll] at h; subst h; rfl
  | d :: ds, vs, h => by
    simp only [RpAll] at h
    obtain ⟨v, r, rfl, _, h2⟩ := h
    simp only [List.length_cons, RpAll.length h2]
theorem RpAll.get {K : PySem.W.Frag} : ∀ {ds : List PyData} {vs : List V} {i : Nat} {d : PyData}, RpAll K F H ds vs → ds[i]? = some d → ∃ v, vs[i]? = some v ∧ Rp K F H d v
  | [], vs, i, d, h, e => by simp at e
  | d :: ds, vs, 0, d', h, e => by
    simp only [RpAll] at h
    obtain ⟨v, r, rfl, h1, h2⟩ := h
    simp at e
    subst e
    exact ⟨v, rfl, h1⟩
  | d :: ds, vs, i + 1, d', h, e => by
    simp only [RpAll] at h
    obtain ⟨v, r, rfl, h1, h2⟩ := h
    simpa using RpAll.get h2 (by simpa using e)
theorem RpAll.append {K : PySem.W.Frag} : ∀ {ds es : List PyData} {vs ws : List V}, RpAll K F H ds vs → RpAll K F H es ws → RpAll K F H (ds ++ es) (vs ++ ws)
  | [], es, vs, ws, h, h2 => by simp only [RpAll] at h; subst h; exact h2
  | d :: ds, es, vs, ws, h, h2 => by
    simp only [RpAll] at h
    obtain ⟨v, r, rfl, h1, h3⟩ := h
    simp only [List.cons_append, RpAll]
    exact ⟨v, _, rfl, h1, RpAll.append h3 h2⟩
theorem RpAll.take {K : PySem.W.Frag} : ∀ (n : Nat) {ds : List PyData} {vs : List V}, RpAll K F H ds vs → RpAll K F H (ds.take n) (vs.take n)
  | 0, ds, vs, h => by simp [RpAll]
  | n + 1, [], vs, h => by simp only [RpAll] at h; subst h; simp [RpAll]
  | n + 1, d :: ds, vs, h => by
    simp only [RpAll] at h
    obtain ⟨v, r, rfl, h1, h3⟩ := h
    simp only [List.take_succ_cons, RpAll]
    exact ⟨v, _, rfl, h1, RpAll.take n h3⟩
theorem RpAll.drop {K : PySem.W.Frag} : ∀ (n : Nat) {ds : List PyData} {vs : List V}, RpAll K F H ds vs → RpAll K F H (ds.drop n) (vs.drop n)
  | 0, ds, vs, h => h
  | n + 1, [], vs, h => by simp only [RpAll] at h; subst h; simp [RpAll]
  | n + 1, d :: ds, vs, h => by
    simp only [RpAll] at h
    obtain ⟨v, r, rfl, h1, h3⟩ := h
    simpa using RpAll.drop n h3
theorem RpAll.nil {K : PySem.W.Frag} : RpAll K F H [] [] := by simp [RpAll]
theorem RpAll.cons {K : PySem.W.Frag} {d : PyData} {v : V} {ds : List PyData} {vs : List V} (h : Rp K F H d v) (t : RpAll K F H ds vs) : RpAll K F H (d :: ds) (v :: vs) := by
  simp only [RpAll]
  exact ⟨v, vs, rfl, h, t⟩
theorem RpAll.one {K : PySem.W.Frag} {d : PyData} {v : V} (h : Rp K F H d v) : RpAll K F H [d] [v] := .cons h .nil

/-! ### making values -/
theorem vr_tup {ds : List PyData} {xs : List V} {p : Addr} {its : List Value} (er : ER M own F γ H env σ S) (hp : H p = none) (h : RpAll M.K F H ds xs) : VR M own H0 F γ (upd H p (tuH its xs)) (.fr (.tuple ds)) (.ref p) := by
  show Rp M.K F _ (.tuple ds) _
  simp only [Rp]
  exact ⟨p, xs, rfl, .inl ⟨_, upd_same, rfl⟩, RpAll.mono (EG.new (γ := γ) hp).toMo ds xs h⟩
theorem vr_lst {ds : List PyData} {xs : List V} {p : Addr} (er : ER M own F γ H env σ S) (hp : H p = none) (h0 : H0 p = none) (h : RpAll M.K F H ds xs) : VR M own H0 F γ (upd H p (.lst xs)) (.ow (.list ds)) (.ref p) :=
  ⟨p, rfl, er.pF hp, er.pO hp, er.pG hp, h0, xs, upd_same, RpAll.mono (EG.new (γ := γ) hp).toMo ds xs h⟩

/-! ### names and constants -/
def mVar (i : Nat) : ME := fun env S => match env[i]? with
  | some (.fr d) => .ok (.fr d) S
  | some (.ow d) => .ok (.bo i d) S
  | some (.rf k) => .ok (.rf k) S
  | some (.sc ns) => .ok (.sc ns) S
  | some (.ex p) => .ok (.ex p) S
  | _ => .stuck
def mC (d : PyData) : ME := fun _ S => .ok (.fr d) S
theorem er_at {s : Sl} {i : Nat} (er : ER M own F γ H env σ S) (h : env[i]? = some s) : ∃ o, σ[i]? = some o ∧ SlR M own F γ H i s o := by
  have hi : i < σ.length := by rw [← er.len]; exact (List.getElem?_eq_some_iff.mp h).1
  exact ⟨σ[i], List.getElem?_eq_getElem hi, er.slot i s _ h (List.getElem?_eq_getElem hi)⟩
theorem s_var (C : Ct P W N Nv G ls k X) (i : Nat) {x : Str} (h : Nv[i]? = some x := by rfl) (hx : (x == "") = false := by rfl) (hd : (x == ("__debug__" : Str)) = false := by decide) (hcd : (x == ("__classdict__" : Str)) = false := by decide) : ES X W (.Name x pos) (mVar i) := by
  obtain ⟨h1, h2⟩ := C.vis i x h hx
  refine pe_mono (pe_var (i := i) (by rw [C.hN]; exact h1) h2 hd hcd) fun σ H Q t => ?_
  obtain ⟨own, F, γ, env, S, er, q⟩ := t
  unfold mVar at q
  split at q
  · rename_i d he
    obtain ⟨o, ho, u, rfl, hr⟩ := er_at er he
    exact ⟨u, ho, q F γ H .refl er u hr⟩
  · rename_i d he
    obtain ⟨o, ho, p, rfl, hr, hw⟩ := er_at er he
    exact ⟨_, ho, q F γ H .refl er _ ⟨p, rfl, (er.own p i hr).1, hr, (er.own p i hr).2.1, hw⟩⟩
  · rename_i d he
    obtain ⟨o, ho, p, rfl, hr⟩ := er_at er he
    exact ⟨_, ho, q F γ H .refl er _ ⟨p, rfl, hr⟩⟩
  · rename_i d he
    obtain ⟨o, ho, p, rfl, hr⟩ := er_at er he
    exact ⟨_, ho, q F γ H .refl er _ ⟨p, rfl, hr⟩⟩
  · rename_i d he
    obtain ⟨o, ho, u, rfl, hr⟩ := er_at er he
    exact ⟨u, ho, q F γ H .refl er u hr⟩
  · exact q.elim
theorem c_of {v : V} {d : PyData} (h : PE X e (tC v)) (hd : ∀ K F H, Rp K F H d v) : ES X W e (mC d) := pe_mono h fun σ H Q t => by
  obtain ⟨own, F, γ, env, S, er, q⟩ := t
  exact q F γ H .refl er v (hd _ _ _)
theorem s_int {i j pos} : ES X W (.Constant (.int i) j pos) (mC (.int i)) := c_of pe_int fun _ _ _ => by simp [Rp]
theorem s_bl {b j pos} : ES X W (.Constant (.bool b) j pos) (mC (.bool b)) := c_of pe_bl fun _ _ _ => by simp [Rp]
theorem s_non {j pos} : ES X W (.Constant .none j pos) (mC .none) := c_of pe_non fun _ _ _ => by simp [Rp]
theorem s_str {x j pos} : ES X W (.Constant (.str x) j pos) (mC (.str x)) := c_of pe_str fun _ _ _ => by simp [Rp]
/-- a module's constant -/
theorem s_glob (C : Ct P W N Nv G ls k X) (i : Nat) {x : Str} {n : Int} {t : Tok} (hm : X.mg x = some (.int n t)) (hg : G[i]? = some x := by rfl) (hd : (x == ("__debug__" : Str)) = false := by decide) : ES X W (.Name x pos) (mC (.int n)) :=
  c_of (pe_glob (v := .int n) (C.glo i x hg) hm ⟨_, rfl⟩ hd) fun _ _ _ => by simp [Rp]

/-! ### two operands -/
/-- the operation f does as op says -/
def OpD (X : Cx) (f : Value → Value → Sem Value) (op : Vl → Vl → Option Vl) : Prop :=
  ∀ (pins : List (Addr × Obj)) (s : Shared) (σ : L2.St) (H H0 : Hp) (own : Addr → Option Nat) (F : Addr → Prop) (γ : List Addr) (env : En) (σ' : L2.St) (S : Sto) (x y z : Vl) (u v : V) (uu vv : Value) (Q : VK),
    Inv X pins σ H s → RelV u uu → RelV v vv → (∀ a, H a = none → H0 a = none) → ER (md X) own F γ H env σ' S → VR (md X) own H0 F γ H x u → VR (md X) own H0 F γ H y v → op x y = some z →
    (∀ F' H' w, EG F γ H F' γ H' → ER (md X) own F' γ H' env σ' S → VR (md X) own H0 F' γ H' z w → Q w H') → wpAny (model X.prog X.w) X.A (f uu vv) (EP X pins σ Q) X.xe s
def r2of (M : Md) (op : Vl → Vl → Option Vl) : R2 := fun u v H Q => ∃ H0 own F γ env σ' S x y z, (∀ a, H a = none → H0 a = none) ∧ ER M own F γ H env σ' S ∧ VR M own H0 F γ H x u ∧ VR M own H0 F γ H y v ∧ op x y = some z ∧
  ∀ F' H' w, EG F γ H F' γ H' → ER M own F' γ H' env σ' S → VR M own H0 F' γ H' z w → Q w H'
theorem OpD.opR {f : Value → Value → Sem Value} {op : Vl → Vl → Option Vl} (h : OpD X f op) : OpR X f (r2of (md X) op) := by
  intro pins s σ H u v uu vv Q I r1 r2 ⟨H0, own, F, γ, env, σ', S, x, y, z, h0, er, h1, h2, h3, q⟩
  exact h pins s σ H H0 own F γ env σ' S x y z u v uu vv Q I r1 r2 h0 er h1 h2 h3 q
def opt2 (op : Vl → Vl → Option Vl) (x y : Vl) (S : Sto) : Res Vl := match op x y with
  | some z => .ok z S
  | none => .stuck
def m2 (op : Vl → Vl → Option Vl) (ma mb : ME) : ME := fun env S => (ma env S).bind fun x S1 => (mb env S1).bind fun y S2 => opt2 op x y S2
theorem KE_opt2 {op : Vl → Vl → Option Vl} {x y : Vl} (h : KE M W own F γ H env σ (opt2 op x y S) Q) : ∃ z, op x y = some z ∧ ∀ F' γ' H', EG F γ H F' γ' H' → ER M own F' γ' H' env σ S → ∀ u, VR M own H F' γ' H' z u → Q u H' := by
  unfold opt2 at h
  cases e : op x y with
  | some z => rw [e] at h; exact ⟨z, rfl, h⟩
  | none => rw [e] at h; exact h.elim
theorem KG_mono {α : Type} {P P' : α → (Addr → Prop) → List Addr → Hp → Sto → Prop} {x : Res α} (h : KG M W own F γ H env σ x P) (w : ∀ a F' γ' H' S', EG F γ H F' γ' H' → ER M own F' γ' H' env σ S' → P a F' γ' H' S' → P' a F' γ' H' S') : KG M W own F γ H env σ x P' := by
  cases x with
  | ok a S' => exact fun F' γ' H' e er => w a F' γ' H' S' e er (h F' γ' H' e er)
  | exc e S' => exact h
  | stuck => exact h
theorem KE_mono {Q' : VK} {x : Res Vl} (h : KE M W own F γ H env σ x Q) (w : ∀ u H', Q u H' → Q' u H') : KE M W own F γ H env σ x Q' := KG_mono h fun _ _ _ _ _ _ _ q u vr => w u _ (q u vr)
theorem tE_m2 {op : Vl → Vl → Option Vl} (h : tE M W (m2 op ma mb) σ H Q) : tOp (r2of M op) (tE M W ma) (tE M W mb) σ H Q := by
  obtain ⟨own, F, γ, env, S, er, q⟩ := h
  refine ⟨own, F, γ, env, S, er, KE_mono (KG_bindE .refl q) ?_⟩
  rintro u H1 ⟨F1, γ1, S1, x, _, g1, er1, v1, _, q1⟩
  refine ⟨own, F1, γ1, env, S1, er1, KE_mono (KG_bindE g1 q1) ?_⟩
  rintro v H2 ⟨F2, γ2, S2, y, e2, g2, er2, v2, _, q2⟩
  obtain ⟨z, ez, q3⟩ := KE_opt2 q2
  exact ⟨H, own, F2, γ2, env, σ, S2, x, y, z, fun a h => g2.back h, er2, v1.mono e2, v2, ez, fun F' H' w' g er' vr => q3 F' γ2 H' (g2.trans g) er' w' vr⟩
theorem s_bin {o : Operator} {op : Vl → Vl → Option Vl} (ho : OpD X (binaryOp o) op) (ha : ES X W a ma) (hb : ES X W b mb) : ES X W (.BinOp a o b pos) (m2 op ma mb) :=
  pe_mono (pe_op ho.opR ha hb) fun σ H Q => tE_m2
theorem s_cmp {o : CmpOp} {op : Vl → Vl → Option Vl} (ho : OpD X (compareOp o) op) (ha : ES X W a ma) (hb : ES X W b mb) (hm : behindInMarks o b = false) : ES X W (.Compare a [o] [b] pos) (m2 op ma mb) :=
  pe_mono (pe_cmpR ho.opR ha hb hm) fun σ H Q => tE_m2
end
end TL
end

section
set_option Elab.async false
set_option linter.all false
set_option maxRecDepth 100000
set_option maxHeartbeats 1000000
namespace TL
open PySem PySem.Spec PyProof.Rows L2 PySem.W
def sz (n : Nat) : Bool := decide (n ≤ 16777216)
theorem sz_ok {n : Nat} (h : sz n = true) : n ≤ sizeLine := by
  rw [sizeLine_eq]
  exact of_decide_eq_true h
def i2 (f : Int → Int → Option PyData) (x y : Vl) : Option Vl := match x.dat, y.dat with
  | some (.int i), some (.int j) => (f i j).map .fr
  | _, _ => none
def vAdd (x y : Vl) : Option Vl := match x.dat, y.dat with
  | some (.int i), some (.int j) => some (.fr (.int (i + j)))
  | some (.str a), some (.str b) => if sz (a.length + b.length) then some (.fr (.str (a ++ b))) else none
  | some (.tuple a), some (.tuple b) => if sz (a.length + b.length) then some (.fr (.tuple (a ++ b))) else none
  | some (.list a), some (.list b) => if sz (a.length + b.length) then some (.ow (.list (a ++ b))) else none
  | _, _ => none
def vSub : Vl → Vl → Option Vl := i2 fun i j => some (.int (i - j))
def small (i : Int) : Bool := decide (i.natAbs < 18446744073709551616)
theorem small_iff {i : Int} (h : small i = true) : -(2 ^ 64) < i ∧ i < 2 ^ 64 := by
  have h : i.natAbs < 18446744073709551616 := of_decide_eq_true h
  omega
def vMul (x y : Vl) : Option Vl := match x.dat, y.dat with
  | some (.int i), some (.int j) => if small i || small j then some (.fr (.int (i * j))) else none
  | some (.list a), some (.int k) => if decide (-(2 ^ 63) ≤ k) && decide (k < 2 ^ 63) && sz (a.length * k.toNat) then some (.ow (.list (List.replicate k.toNat a).flatten)) else none
  | _, _ => none
def vDiv : Vl → Vl → Option Vl := i2 fun i j => if decide (0 < j) && decide (j < 1073741824) then some (.int (i / j)) else none
def vMod : Vl → Vl → Option Vl := i2 fun i j => if decide (0 < j) then some (.int (i % j)) else none
def vPow : Vl → Vl → Option Vl := i2 fun i j => if decide (0 ≤ j) && decide (j ≤ 1000000) && decide (i.natAbs < 2 ^ 64) then some (.int (i ^ j.toNat)) else none
def vShl : Vl → Vl → Option Vl := i2 fun i j => if decide (0 ≤ j) && decide (j ≤ 1000000) && decide (i.natAbs < 2 ^ 64) then some (.int (i * 2 ^ j.toNat)) else none
def vShr : Vl → Vl → Option Vl := i2 fun i j => if decide (0 ≤ j) then some (.int (i / 2 ^ j.toNat)) else none
def vAnd : Vl → Vl → Option Vl := i2 fun i j => some (.int (Builtin.bitAnd i j))
def vOr : Vl → Vl → Option Vl := i2 fun i j => some (.int (Builtin.bitOr i j))
section
variable {X : Cx}
theorem dat_split {x y : Vl} {f : Int → Int → Option PyData} {z : Vl} (h : i2 f x y = some z) : ∃ i j d, x.dat = some (.int i) ∧ y.dat = some (.int j) ∧ f i j = some d ∧ z = .fr d := by
  unfold i2 at h
  split at h
  · rename_i i j hx hy
    obtain ⟨d, e, rfl⟩ := Option.map_eq_some_iff.mp h
    exact ⟨i, j, d, hx, hy, e, rfl⟩
  · cases h
theorem opd_i2 {f : Value → Value → Sem Value} {g : Int → Int → Option PyData}
    (h : ∀ (pins : List (Addr × Obj)) (s : Shared) (σ : L2.St) (H : Hp) (i j : Int) (d : PyData) (uu vv : Value) (Q : VK), Inv X pins σ H s → RelV (.int i) uu → RelV (.int j) vv → g i j = some d → (∃ n, d = .int n ∧ Q (.int n) H) → wpAny (model X.prog X.w) X.A (f uu vv) (EP X pins σ Q) X.xe s)
    (hn : ∀ i j d, g i j = some d → ∃ n, d = .int n) : OpD X f (i2 g) := by
  intro pins s σ H H0 own F γ env σ' S x y z u v uu vv Q I r1 r2 h0 er h1 h2 h3 q
  obtain ⟨i, j, d, hx, hy, e, rfl⟩ := dat_split h3
  obtain rfl := h1.int hx
  obtain rfl := h2.int hy
  obtain ⟨n, rfl⟩ := hn i j d e
  exact h pins s σ H i j _ uu vv Q I r1 r2 e ⟨n, rfl, q F H _ .refl er (by simp [VR, Rp])⟩
theorem d_sub : OpD X (binaryOp .Sub) vSub := opd_i2 (fun pins s σ H i j d uu vv Q I r1 r2 e ⟨n, ed, q⟩ => by
  cases e; cases ed
  exact op_sub pins s σ H _ _ uu vv Q I r1 r2 ⟨i, j, rfl, rfl, q⟩) fun i j d e => by cases e; exact ⟨_, rfl⟩
theorem d_div : OpD X (binaryOp .FloorDiv) vDiv := opd_i2 (fun pins s σ H i j d uu vv Q I r1 r2 e ⟨n, ed, q⟩ => by
  split at e
  · rename_i hc
    cases e; cases ed
    simp only [Bool.and_eq_true, decide_eq_true_eq] at hc
    exact op_fdiv pins s σ H _ _ uu vv Q I r1 r2 ⟨i, j, rfl, rfl, hc, q⟩
  · cases e) fun i j d e => by split at e <;> cases e; exact ⟨_, rfl⟩
theorem d_mod : OpD X (binaryOp .Mod) vMod := opd_i2 (fun pins s σ H i j d uu vv Q I r1 r2 e ⟨n, ed, q⟩ => by
  split at e
  · rename_i hc
    cases e; cases ed
    exact op_mod pins s σ H _ _ uu vv Q I r1 r2 ⟨i, j, rfl, rfl, of_decide_eq_true hc, q⟩
  · cases e) fun i j d e => by split at e <;> cases e; exact ⟨_, rfl⟩
theorem d_pow : OpD X (binaryOp .Pow) vPow := opd_i2 (fun pins s σ H i j d uu vv Q I r1 r2 e ⟨n, ed, q⟩ => by
  split at e
  · rename_i hc
    cases e; cases ed
    simp only [Bool.and_eq_true, decide_eq_true_eq] at hc
    exact op_pow pins s σ H _ _ uu vv Q I r1 r2 ⟨i, j, rfl, rfl, ⟨hc.1.1, hc.1.2, hc.2⟩, q⟩
  · cases e) fun i j d e => by split at e <;> cases e; exact ⟨_, rfl⟩
theorem d_shl : OpD X (binaryOp .LShift) vShl := opd_i2 (fun pins s σ H i j d uu vv Q I r1 r2 e ⟨n, ed, q⟩ => by
  split at e
  · rename_i hc
    cases e; cases ed
    simp only [Bool.and_eq_true, decide_eq_true_eq] at hc
    exact op_shl pins s σ H _ _ uu vv Q I r1 r2 ⟨i, j, rfl, rfl, ⟨hc.1.1, hc.1.2, hc.2⟩, q⟩
  · cases e) fun i j d e => by split at e <;> cases e; exact ⟨_, rfl⟩
theorem d_shr : OpD X (binaryOp .RShift) vShr := opd_i2 (fun pins s σ H i j d uu vv Q I r1 r2 e ⟨n, ed, q⟩ => by
  split at e
  · rename_i hc
    cases e; cases ed
    exact op_shr pins s σ H _ _ uu vv Q I r1 r2 ⟨i, j, rfl, rfl, of_decide_eq_true hc, q⟩
  · cases e) fun i j d e => by split at e <;> cases e; exact ⟨_, rfl⟩
theorem d_and : OpD X (binaryOp .BitAnd) vAnd := opd_i2 (fun pins s σ H i j d uu vv Q I r1 r2 e ⟨n, ed, q⟩ => by
  cases e; cases ed
  exact op_and pins s σ H _ _ uu vv Q I r1 r2 ⟨i, j, rfl, rfl, q⟩) fun i j d e => by cases e; exact ⟨_, rfl⟩
theorem d_or : OpD X (binaryOp .BitOr) vOr := opd_i2 (fun pins s σ H i j d uu vv Q I r1 r2 e ⟨n, ed, q⟩ => by
  cases e; cases ed
  exact op_or pins s σ H _ _ uu vv Q I r1 r2 ⟨i, j, rfl, rfl, q⟩) fun i j d e => by cases e; exact ⟨_, rfl⟩
theorem RpAll.nil_iff {K : PySem.W.Frag} {F : Addr → Prop} {H : Hp} {ds : List PyData} {vs : List V} (h : RpAll K F H ds vs) : vs = [] ↔ ds = [] := by
  have := RpAll.length h
  cases ds <;> cases vs <;> simp at *
theorem d_add : OpD X (binaryOp .Add) vAdd := by
  intro pins s σ H H0 own F γ env σ' S x y z u v uu vv Q I r1 r2 h0 er h1 h2 h3 q
  unfold vAdd at h3
  split at h3
  · rename_i i j hx hy
    cases h3
    obtain rfl := h1.int hx
    obtain rfl := h2.int hy
    exact op_add pins s σ H _ _ uu vv Q I r1 r2 ⟨i, j, rfl, rfl, q F H _ .refl er (by simp [VR, Rp])⟩
  · rename_i i j hx hy
    split at h3
    · rename_i hs
      cases h3
      obtain rfl := h1.str hx
      obtain rfl := h2.str hy
      exact op_add_str pins s σ H _ _ uu vv Q I r1 r2 ⟨i, j, rfl, rfl, sz_ok hs, q F H _ .refl er (by simp [VR, Rp])⟩
    · cases h3
  · rename_i i j hx hy
    split at h3
    · rename_i hs
      cases h3
      obtain ⟨a, xs, rfl, ha, hxs⟩ := h1.tup hx
      obtain ⟨b, ys, rfl, hb, hys⟩ := h2.tup hy
      refine op_cat1 pins s σ H _ _ uu vv Q I r1 r2 ⟨a, b, xs, ys, rfl, rfl, ha.t, hb.t, by rw [← hxs.length, ← hys.length]; exact sz_ok hs, fun e => ?_, fun _ e => ?_, fun _ _ p its hp => ?_⟩
      · refine q F H _ .refl er ?_
        rw [hxs.nil_iff.mp e]
        show Rp _ _ _ (.tuple ([] ++ j)) _
        simp only [Rp]
        exact ⟨b, ys, rfl, hb, hys⟩
      · refine q F H _ .refl er ?_
        rw [hys.nil_iff.mp e]
        show Rp _ _ _ (.tuple (i ++ [])) _
        simp only [Rp, List.append_nil]
        exact ⟨a, xs, rfl, ha, hxs⟩
      · exact q F _ _ (EG.new hp) (er.new hp) (vr_tup er hp (hxs.append hys))
    · cases h3
  · rename_i i j hx hy
    split at h3
    · rename_i hs
      cases h3
      obtain ⟨a, xs, rfl, ha, hxs⟩ := h1.lst hx
      obtain ⟨b, ys, rfl, hb, hys⟩ := h2.lst hy
      exact op_cat pins s σ H _ _ uu vv Q I r1 r2 ⟨a, b, xs, ys, rfl, rfl, ha, hb, by rw [← hxs.length, ← hys.length]; exact sz_ok hs, fun p hp => q F _ _ (EG.new hp) (er.new hp) (vr_lst er hp (h0 p hp) (hxs.append hys))⟩
    · cases h3
  · cases h3
theorem RpAll.rep {K : PySem.W.Frag} {F : Addr → Prop} {H : Hp} {ds : List PyData} {vs : List V} (h : RpAll K F H ds vs) : ∀ k, RpAll K F H (List.replicate k ds).flatten (List.replicate k vs).flatten
  | 0 => by simp [RpAll]
  | k + 1 => by
    simp only [List.replicate_succ, List.flatten_cons]
    exact h.append (RpAll.rep h k)
theorem d_mul : OpD X (binaryOp .Mult) vMul := by
  intro pins s σ H H0 own F γ env σ' S x y z u v uu vv Q I r1 r2 h0 er h1 h2 h3 q
  unfold vMul at h3
  split at h3
  · rename_i i j hx hy
    split at h3
    · rename_i hs
      cases h3
      obtain rfl := h1.int hx
      obtain rfl := h2.int hy
      have hs : CMul i j := (Bool.or_eq_true_iff.mp hs).imp small_iff small_iff
      exact op_mul pins s σ H _ _ uu vv Q I r1 r2 ⟨i, j, rfl, rfl, hs, q F H _ .refl er (by simp [VR, Rp])⟩
    · cases h3
  · rename_i i j hx hy
    split at h3
    · rename_i hs
      cases h3
      simp only [Bool.and_eq_true, decide_eq_true_eq] at hs
      obtain ⟨a, xs, rfl, ha, hxs⟩ := h1.lst hx
      obtain rfl := h2.int hy
      exact op_rep pins s σ H _ _ uu vv Q I r1 r2 ⟨a, j, xs, rfl, rfl, ha, hs.1.1, hs.1.2, by rw [← hxs.length]; exact sz_ok hs.2, fun p hp => q F _ _ (EG.new hp) (er.new hp) (vr_lst er hp (h0 p hp) (hxs.rep _))⟩
    · cases h3
  · cases h3

/-! ### data read off the state -/
mutual
theorem Rp.reads {pins : List (Addr × Obj)} {s : Shared} {σ : L2.St} {H : Hp} {F : Addr → Prop} (I : Inv X pins σ H s) : ∀ (d : PyData) (v : V) (u : Value), d.plain = true → Rp X.K F H d v → RelV v u → ∃ as, Reads s.heap u d as
  | .none, v, u, _, h, r => by
    simp only [Rp] at h; subst h; cases r
    exact ⟨_, Reads.none⟩
  | .bool b, v, u, _, h, r => by
    simp only [Rp] at h; subst h; cases r
    exact ⟨_, Reads.bool b⟩
  | .int i, v, u, _, h, r => by
    simp only [Rp] at h; subst h; obtain ⟨t, rfl⟩ := r
    exact ⟨_, Reads.int i t⟩
  | .str x, v, u, _, h, r => by
    simp only [Rp] at h; subst h; obtain ⟨t, rfl⟩ := r
    exact ⟨_, Reads.str x t⟩
  | .list ds, v, u, p, h, r => by
    simp only [Rp] at h
    obtain ⟨a, xs, rfl, h1, h2⟩ := h
    cases r
    obtain ⟨its, rv, ⟨o, n, ho, hc, _, hd⟩, _⟩ := I.list (.of h1.2)
    obtain ⟨as, hr⟩ := Rp.readsAll I ds xs its (by simpa [PyData.plain] using p) h2 rv
    exact ⟨_, Reads.list ho hc hd hr⟩
  | .tuple ds, v, u, p, h, r => by
    simp only [Rp] at h
    obtain ⟨a, xs, rfl, h1, h2⟩ := h
    cases r
    obtain ⟨its, rv, ⟨o, ho, hc, n, hd⟩, _⟩ := I.tuple h1.t
    obtain ⟨as, hr⟩ := Rp.readsAll I ds xs its (by simpa [PyData.plain] using p) h2 rv
    exact ⟨_, Reads.tuple ho hc hd hr⟩
  | .dict _, v, u, p, h, r => by simp [PyData.plain] at p
theorem Rp.readsAll {pins : List (Addr × Obj)} {s : Shared} {σ : L2.St} {H : Hp} {F : Addr → Prop} (I : Inv X pins σ H s) : ∀ (ds : List PyData) (vs : List V) (us : List Value), PyData.plainAll ds = true → RpAll X.K F H ds vs → Vals vs us → ∃ as, ReadsAll s.heap us ds as
  | [], vs, us, _, h, r => by
    simp only [RpAll] at h; subst h; cases r
    exact ⟨_, ReadsAll.nil⟩
  | d :: ds, vs, us, p, h, r => by
    simp only [RpAll] at h
    obtain ⟨v, t, rfl, h1, h2⟩ := h
    cases r with
    | cons r1 r2 =>
      simp only [PyData.plainAll, Bool.and_eq_true] at p
      obtain ⟨as, q1⟩ := Rp.reads I d v _ p.1 h1 r1
      obtain ⟨bs, q2⟩ := Rp.readsAll I ds t _ p.2 h2 r2
      exact ⟨_, ReadsAll.cons q1 q2⟩
end
theorem VR.reads {pins : List (Addr × Obj)} {s : Shared} {σ : L2.St} {H H0 : Hp} {own : Addr → Option Nat} {F : Addr → Prop} {γ : List Addr} {r : Vl} {d : PyData} {v : V} {u : Value} (I : Inv X pins σ H s) (h : VR (md X) own H0 F γ H r v) (hd : r.dat = some d) (p : d.plain = true) (rv : RelV v u) : ∃ as, Reads s.heap u d as := by
  cases d with
  | list ds =>
    obtain ⟨a, xs, rfl, h1, h2⟩ := h.lst hd
    cases rv
    obtain ⟨its, rv, ⟨o, n, ho, hc, _, hd⟩, _⟩ := I.list (.of h1)
    obtain ⟨as, hr⟩ := Rp.readsAll I ds xs its (by simpa [PyData.plain] using p) h2 rv
    exact ⟨_, Reads.list ho hc hd hr⟩
  | dict _ => simp [PyData.plain] at p
  | _ => exact Rp.reads I _ v u p (h.scal hd (fun _ z => nomatch z) (fun _ z => nomatch z)) rv

/-! ### comparisons -/
def b2 (f : PyData → PyData → Option Bool) (x y : Vl) : Option Vl := match x.dat, y.dat with
  | some d, some e => (f d e).map fun b => .fr (.bool b)
  | _, _ => none
def shallow (d e : PyData) : Bool := decide (min d.depth e.depth ≤ 60)
def dEq (d e : PyData) : Option Bool := if d.plain && e.plain && shallow d e then some (PyData.eqv d e) else none
def notNone : PyData → Bool
  | .none => false
  | _ => true
def dLt (d e : PyData) : Option Bool := if d.plain && e.plain && alike d e && notNone d && shallow d e then some (dataLt d e) else none
def dGt (d e : PyData) : Option Bool := if d.plain && e.plain && alike d e && notNone d && shallow d e then some (dataLt e d) else none
def vEq := b2 dEq
def vNe := b2 fun d e => (dEq d e).map not
def vLt := b2 dLt
def vGt := b2 dGt
def vLe := b2 fun d e => (dGt d e).map not
def vGe := b2 fun d e => (dLt d e).map not
def vIs : Vl → Vl → Option Vl := b2 fun d e => match e with
  | .none => some (!notNone d)
  | _ => none
def vIsNot : Vl → Vl → Option Vl := b2 fun d e => match e with
  | .none => some (notNone d)
  | _ => none
theorem b2_split {x y : Vl} {f : PyData → PyData → Option Bool} {z : Vl} (h : b2 f x y = some z) : ∃ d e b, x.dat = some d ∧ y.dat = some e ∧ f d e = some b ∧ z = .fr (.bool b) := by
  unfold b2 at h
  split at h
  · rename_i d e hx hy
    obtain ⟨b, q, rfl⟩ := Option.map_eq_some_iff.mp h
    exact ⟨d, e, b, hx, hy, q, rfl⟩
  · cases h
theorem opd_b2 {f : Value → Value → Sem Value} {g : PyData → PyData → Option Bool}
    (h : ∀ (pins : List (Addr × Obj)) (s : Shared) (σ : L2.St) (H : Hp) (d e : PyData) (b : Bool) (uu vv : Value) (Q : Value → Shared → Prop), Inv X pins σ H s → (d.plain = true → ∃ as, Reads s.heap uu d as) → (e.plain = true → ∃ as, Reads s.heap vv e as) → (uu == Value.none) = !notNone d → (e = .none → vv = .none) → g d e = some b → Q (.bool b) s → wpAny (model X.prog X.w) X.A (f uu vv) Q X.xe s) : OpD X f (b2 g) := by
  intro pins s σ H H0 own F γ env σ' S x y z u v uu vv Q I r1 r2 h0 er h1 h2 h3 q
  obtain ⟨d, e, b, hx, hy, hb, rfl⟩ := b2_split h3
  refine h pins s σ H d e b uu vv _ I (fun p => h1.reads I hx p r1) (fun p => h2.reads I hy p r2) ?_ (fun p => ?_) hb ⟨.bl b, H, I, rfl, q F H _ .refl er (by simp [VR, Rp])⟩
  · rw [r1.none_iff]
    cases d with
    | none => rw [h1.non hx]; rfl
    | bool b => rw [h1.bl hx]; rfl
    | int b => rw [h1.int hx]; rfl
    | str b => rw [h1.str hx]; rfl
    | tuple b => obtain ⟨a, _, rfl, _⟩ := h1.tup hx; rfl
    | list b => obtain ⟨a, _, rfl, _⟩ := h1.lst hx; rfl
    | dict b =>
      have : ∃ a, u = .ref a := by
        cases x with
        | fr d' => cases hx; have h1 : Rp _ F H _ u := h1; simp only [Rp] at h1; obtain ⟨a, _, rfl, _⟩ := h1; exact ⟨a, rfl⟩
        | ow d' => obtain ⟨a, rfl, _⟩ := h1; exact ⟨a, rfl⟩
        | bo i d' => obtain ⟨a, rfl, _⟩ := h1; exact ⟨a, rfl⟩
        | rf k => cases hx
        | sc ns => cases hx
        | ex p => cases hx
      obtain ⟨a, rfl⟩ := this
      rfl
  · subst p
    rw [h2.non hy] at r2
    exact r2
theorem room60 (hu : L2H.RoomH k X.A) {d e : PyData} (h : shallow d e = true) : X.A.units + min d.depth e.depth < cLine := by
  have h1 := hu.un
  have h2 : min d.depth e.depth ≤ 60 := of_decide_eq_true h
  omega
theorem dEq_some {d e : PyData} {b : Bool} (h : dEq d e = some b) : d.plain = true ∧ e.plain = true ∧ shallow d e = true ∧ b = PyData.eqv d e := by
  unfold dEq at h
  split at h
  · rename_i hc
    simp only [Bool.and_eq_true] at hc
    cases h
    exact ⟨hc.1.1, hc.1.2, hc.2, rfl⟩
  · cases h
theorem d_eq (hu : L2H.RoomH k X.A) : OpD X (compareOp .Eq) vEq := opd_b2 fun pins s σ H d e b uu vv Q I r1 r2 _ _ hb q => by
  obtain ⟨p1, p2, p3, rfl⟩ := dEq_some hb
  obtain ⟨as, ra⟩ := r1 p1
  obtain ⟨bs, rb⟩ := r2 p2
  exact SeqAt.eq_plain ra rb p1 p2 (room60 hu p3) q
theorem d_ne (hu : L2H.RoomH k X.A) : OpD X (compareOp .NotEq) vNe := opd_b2 fun pins s σ H d e b uu vv Q I r1 r2 _ _ hb q => by
  obtain ⟨c, hc, rfl⟩ := Option.map_eq_some_iff.mp hb
  obtain ⟨p1, p2, p3, rfl⟩ := dEq_some hc
  obtain ⟨as, ra⟩ := r1 p1
  obtain ⟨bs, rb⟩ := r2 p2
  exact SeqAt.ne_plain ra rb p1 p2 (room60 hu p3) q
theorem ne_none_of_not {d : PyData} (h : notNone d = true) : d ≠ .none := fun e => by subst e; cases h
theorem dLt_some {d e : PyData} {b : Bool} (h : dLt d e = some b) : d.plain = true ∧ e.plain = true ∧ alike d e = true ∧ d ≠ .none ∧ shallow d e = true ∧ b = dataLt d e := by
  unfold dLt at h
  split at h
  · rename_i hc
    simp only [Bool.and_eq_true] at hc
    cases h
    exact ⟨hc.1.1.1.1, hc.1.1.1.2, hc.1.1.2, ne_none_of_not hc.1.2, hc.2, rfl⟩
  · cases h
theorem dGt_some {d e : PyData} {b : Bool} (h : dGt d e = some b) : d.plain = true ∧ e.plain = true ∧ alike d e = true ∧ d ≠ .none ∧ shallow d e = true ∧ b = dataLt e d := by
  unfold dGt at h
  split at h
  · rename_i hc
    simp only [Bool.and_eq_true] at hc
    cases h
    exact ⟨hc.1.1.1.1, hc.1.1.1.2, hc.1.1.2, ne_none_of_not hc.1.2, hc.2, rfl⟩
  · cases h
theorem d_lt (hu : L2H.RoomH k X.A) : OpD X (compareOp .Lt) vLt := opd_b2 fun pins s σ H d e b uu vv Q I r1 r2 _ _ hb q => by
  obtain ⟨p1, p2, p3, p4, p5, rfl⟩ := dLt_some hb
  obtain ⟨as, ra⟩ := r1 p1
  obtain ⟨bs, rb⟩ := r2 p2
  exact PySem.W.lt_data ra rb p3 p4 (room60 hu p5) q
theorem d_gt (hu : L2H.RoomH k X.A) : OpD X (compareOp .Gt) vGt := opd_b2 fun pins s σ H d e b uu vv Q I r1 r2 _ _ hb q => by
  obtain ⟨p1, p2, p3, p4, p5, rfl⟩ := dGt_some hb
  obtain ⟨as, ra⟩ := r1 p1
  obtain ⟨bs, rb⟩ := r2 p2
  exact PySem.W.gt_data ra rb p3 p4 (room60 hu p5) q
theorem d_le (hu : L2H.RoomH k X.A) : OpD X (compareOp .LtE) vLe := opd_b2 fun pins s σ H d e b uu vv Q I r1 r2 _ _ hb q => by
  obtain ⟨c, hc, rfl⟩ := Option.map_eq_some_iff.mp hb
  obtain ⟨p1, p2, p3, p4, p5, rfl⟩ := dGt_some hc
  obtain ⟨as, ra⟩ := r1 p1
  obtain ⟨bs, rb⟩ := r2 p2
  exact PySem.W.le_data ra rb p3 p4 (room60 hu p5) q
theorem d_ge (hu : L2H.RoomH k X.A) : OpD X (compareOp .GtE) vGe := opd_b2 fun pins s σ H d e b uu vv Q I r1 r2 _ _ hb q => by
  obtain ⟨c, hc, rfl⟩ := Option.map_eq_some_iff.mp hb
  obtain ⟨p1, p2, p3, p4, p5, rfl⟩ := dLt_some hc
  obtain ⟨as, ra⟩ := r1 p1
  obtain ⟨bs, rb⟩ := r2 p2
  exact PySem.W.ge_data ra rb p3 p4 (room60 hu p5) q
theorem d_is : OpD X (compareOp .Is) vIs := opd_b2 fun pins s σ H d e b uu vv Q I r1 r2 hn he hb q => by
  split at hb
  · obtain rfl := he rfl
    cases hb
    exact is_none_gen (by rw [hn]; exact q)
  · cases hb
theorem d_isnot : OpD X (compareOp .IsNot) vIsNot := opd_b2 fun pins s σ H d e b uu vv Q I r1 r2 hn he hb q => by
  split at hb
  · obtain rfl := he rfl
    cases hb
    exact isnot_none_gen (by show Q (Value.bool (!(uu == Value.none))) s; rw [hn, Bool.not_not]; exact q)
  · cases hb
/-! in -/
def dIn (d e : PyData) : Option Bool := match e with
  | .list ds => if d.plain && PyData.plainAll ds && decide (d.depth ≤ 60) then some (ds.any fun z => PyData.eqv z d) else none
  | .tuple ds => if d.plain && PyData.plainAll ds && decide (d.depth ≤ 60) then some (ds.any fun z => PyData.eqv z d) else none
  | .str z => match d with
    | .str x => some (!(Builtin.Str.occurrences z x 0 z.length 1).isEmpty)
    | _ => none
  | _ => none
def vIn := b2 dIn
def vNotIn := b2 fun d e => (dIn d e).map not
theorem reads_str {h : Heap} {u : Value} {x : Str} {as : List Addr} (r : Reads h u (.str x) as) : ∃ t, u = .str x t := by cases r; exact ⟨_, rfl⟩
theorem d_in (hu : L2H.RoomH k X.A) : OpD X (compareOp .In) vIn := opd_b2 fun pins s σ H d e b uu vv Q I r1 r2 hn he hb q => by
  have hu1 := hu.un
  unfold dIn at hb
  split at hb
  · rename_i ds
    split at hb
    · rename_i hc
      simp only [Bool.and_eq_true, decide_eq_true_eq] at hc
      cases hb
      obtain ⟨as, ra⟩ := r1 hc.1.1
      obtain ⟨bs, rb⟩ := r2 (by simpa [PyData.plain] using hc.1.2)
      exact SeqAt.in_list_data rb ra hc.1.2 hc.1.1 (by omega) q
    · cases hb
  · rename_i ds
    split at hb
    · rename_i hc
      simp only [Bool.and_eq_true, decide_eq_true_eq] at hc
      cases hb
      obtain ⟨as, ra⟩ := r1 hc.1.1
      obtain ⟨bs, rb⟩ := r2 (by simpa [PyData.plain] using hc.1.2)
      exact SeqAt.in_tuple_data rb ra hc.1.2 hc.1.1 (by omega) q
    · cases hb
  · rename_i z
    split at hb
    · rename_i x
      cases hb
      obtain ⟨as, ra⟩ := r1 rfl
      obtain ⟨bs, rb⟩ := r2 rfl
      obtain ⟨t, rfl⟩ := reads_str ra
      obtain ⟨t', rfl⟩ := reads_str rb
      exact in_str q
    · cases hb
  · cases hb
theorem d_notin (hu : L2H.RoomH k X.A) : OpD X (compareOp .NotIn) vNotIn := opd_b2 fun pins s σ H d e b uu vv Q I r1 r2 hn he hb q => by
  have hu1 := hu.un
  obtain ⟨c, hb2, rfl⟩ := Option.map_eq_some_iff.mp hb
  clear hb
  unfold dIn at hb2
  split at hb2
  · rename_i ds
    split at hb2
    · rename_i hc
      simp only [Bool.and_eq_true, decide_eq_true_eq] at hc
      obtain rfl := Option.some.inj hb2
      obtain ⟨as, ra⟩ := r1 hc.1.1
      obtain ⟨bs, rb⟩ := r2 (by simpa [PyData.plain] using hc.1.2)
      exact SeqAt.notIn_list_data rb ra hc.1.2 hc.1.1 (by omega) q
    · cases hb2
  · rename_i ds
    split at hb2
    · rename_i hc
      simp only [Bool.and_eq_true, decide_eq_true_eq] at hc
      obtain rfl := Option.some.inj hb2
      obtain ⟨as, ra⟩ := r1 hc.1.1
      obtain ⟨bs, rb⟩ := r2 (by simpa [PyData.plain] using hc.1.2)
      exact SeqAt.notIn_tuple_data rb ra hc.1.2 hc.1.1 (by omega) q
    · cases hb2
  · rename_i z
    split at hb2
    · rename_i x
      obtain rfl := Option.some.inj hb2
      obtain ⟨as, ra⟩ := r1 rfl
      obtain ⟨bs, rb⟩ := r2 rfl
      obtain ⟨t, rfl⟩ := reads_str ra
      obtain ⟨t', rfl⟩ := reads_str rb
      exact notIn_str q
    · cases hb2
  · cases hb2
end
end TL
end

section
set_option Elab.async false
set_option linter.all false
set_option maxRecDepth 100000
set_option maxHeartbeats 1000000
namespace TL
open PySem PySem.Spec PyProof.Rows L2 PySem.W
section
variable {X : Cx} {W : WX} {N Nv G : List Str} {ls : List Nat} {P : Pg} {k : Nat} {M : Md} {own : Addr → Option Nat} {F F' F1 F2 : Addr → Prop} {γ γ' γ1 γ2 : List Addr} {H H' H0 H1 H2 : Hp} {env : En} {σ : L2.St} {S S' S1 : Sto} {r : Vl} {u : V} {Q : VK}
variable {a b c e : Expr} {es : List Expr} {ma mb mc : ME} {mt mu mv : MT} {mr : MA} {pos : Pos}

/-! ### argument lists -/
def mNil : MA := fun _ S => .ok [] S
def mCons (ma : ME) (mr : MA) : MA := fun env S => (ma env S).bind fun x S1 => (mr env S1).bind fun xs S2 => .ok (x :: xs) S2
theorem s_anil : EA X W [] mNil := pa_mono pa_nil fun σ H Q ⟨own, F, γ, env, S, er, q⟩ => q F γ H .refl er [] .nil
theorem s_acons (ha : ES X W a ma) (hr : EA X W es mr) (hs : starEach (a :: es) X.env = (false, eval a X.env) :: starEach es X.env := by rfl) : EA X W (a :: es) (mCons ma mr) := pa_mono (pa_cons ha hr hs) fun σ H Q ⟨own, F, γ, env, S, er, q⟩ => by
  refine ⟨own, F, γ, env, S, er, KE_mono (KG_bindE .refl q) ?_⟩
  rintro u H1 ⟨F1, γ1, S1, x, _, g1, er1, v1, _, q1⟩
  refine ⟨own, F1, γ1, env, S1, er1, KG_mono (KG_bindA g1 q1) ?_⟩
  intro rs F' γ' H' S' e' er' q2 us vs
  obtain ⟨F2, γ2, S2, rs2, e2, g2, er2, p2, p3, q3⟩ := q2 us vs
  exact q3 F2 γ2 H' g2 er2 (u :: us) (.cons (v1.mono e2) p2)
/-! ### one operand -/
def opt1 (op : Vl → Option Vl) (x : Vl) (S : Sto) : Res Vl := match op x with
  | some z => .ok z S
  | none => .stuck
def m1 (op : Vl → Option Vl) (ma : ME) : ME := fun env S => (ma env S).bind fun x S1 => opt1 op x S1
def optL (op : List Vl → Option Vl) (xs : List Vl) (S : Sto) : Res Vl := match op xs with
  | some z => .ok z S
  | none => .stuck
def mL (op : List Vl → Option Vl) (mr : MA) : ME := fun env S => (mr env S).bind fun xs S1 => optL op xs S1
/-- a known callable does as op says -/
def CallD (X : Cx) (f : Value) (op : List Vl → Option Vl) : Prop :=
  ∀ (pins : List (Addr × Obj)) (s : Shared) (σ : L2.St) (H H0 : Hp) (own : Addr → Option Nat) (F : Addr → Prop) (γ : List Addr) (env : En) (σ' : L2.St) (S : Sto) (xs : List Vl) (z : Vl) (us : List V) (uu : List Value) (Q : VK),
    Inv X pins σ H s → Vals us uu → (∀ a, H a = none → H0 a = none) → ER (md X) own F γ H env σ' S → Paired (VR (md X) own H0 F γ H) xs us → op xs = some z →
    (∀ F' H' w, EG F γ H F' γ H' → ER (md X) own F' γ H' env σ' S → VR (md X) own H0 F' γ H' z w → Q w H') → wpAny (model X.prog X.w) X.A (call f uu) (EP X pins σ Q) X.xe s
def rLof (M : Md) (op : List Vl → Option Vl) : List V → Hp → VK → Prop := fun us H Q => ∃ H0 own F γ env σ' S xs z, (∀ a, H a = none → H0 a = none) ∧ ER M own F γ H env σ' S ∧ Paired (VR M own H0 F γ H) xs us ∧ op xs = some z ∧
  ∀ F' H' w, EG F γ H F' γ H' → ER M own F' γ H' env σ' S → VR M own H0 F' γ H' z w → Q w H'
theorem CallD.callR {f : Value} {op : List Vl → Option Vl} (h : CallD X f op) : CallR X f (rLof (md X) op) := by
  intro pins s σ H us uu Q I r1 ⟨H0, own, F, γ, env, σ', S, xs, z, h0, er, h1, h3, q⟩
  exact h pins s σ H H0 own F γ env σ' S xs z us uu Q I r1 h0 er h1 h3 q
theorem tE_mL {op : List Vl → Option Vl} (h : tE M W (mL op mr) σ H Q) : tCB (rLof M op) (tA M W mr) σ H Q := by
  obtain ⟨own, F, γ, env, S, er, q⟩ := h
  refine ⟨own, F, γ, env, S, er, KG_mono (KG_bindA .refl q) ?_⟩
  intro rs F' γ' H' S' e' er' q2 us vs
  obtain ⟨F2, γ2, S2, rs2, e2, g2, er2, p2, p3, q3⟩ := q2 us vs
  revert q3
  show KE M W own F γ H env σ (optL op rs2 S2) Q → _
  unfold optL
  cases eo : op rs2 with
  | none => exact fun q3 => q3.elim
  | some z => exact fun q3 => ⟨H, own, F2, γ2, env, σ, S2, rs2, z, fun a h => g2.back h, er2, p2, eo, fun F' H'' w g er3 vr => q3 F' γ2 H'' (g2.trans g) er3 w vr⟩
theorem s_callB (C : Ct P W N Nv G ls k X) {id : String} {x : Str} {p : Pos} {op : List Vl → Option Vl} (hc : CallD X (.builtin id) op) (i : Nat) (hm : X.mg x = none) (hr : EA X W (e :: es) mr) (hg : G[i]? = some x := by rfl) (hv : bootBuiltins x = some (.builtin id) := by decide +kernel) (hn : x ≠ "__name__" := by decide) (hdb : (x == ("__debug__" : Str)) = false := by decide)
    (he : starEach (e :: es) X.env = (false, eval e X.env) :: starEach es X.env := by rfl) (hpl : (backTo pos (starEach es X.env)).any (·.1) = false := by rfl) : ES X W (.Call (.Name x p) (e :: es) [] pos) (mL op mr) :=
  pe_mono (pe_callB hc.callR (C.glo i x hg) hm hv hr hn hdb he hpl) fun σ H Q => tE_mL
theorem s_callTy (C : Ct P W N Nv G ls k X) {T : String} {x : Str} {p : Pos} {op : List Vl → Option Vl} (hc : CallD X (.type T) op) (i : Nat) (hm : X.mg x = none) (hr : EA X W (e :: es) mr) (hg : G[i]? = some x := by rfl) (hv : bootBuiltins x = some (.type T) := by decide +kernel) (hn : x ≠ "__name__" := by decide) (hdb : (x == ("__debug__" : Str)) = false := by decide)
    (he : starEach (e :: es) X.env = (false, eval e X.env) :: starEach es X.env := by rfl) (hpl : (backTo pos (starEach es X.env)).any (·.1) = false := by rfl) : ES X W (.Call (.Name x p) (e :: es) [] pos) (mL op mr) :=
  pe_mono (pe_callTy hc.callR (C.glo i x hg) hm hv hr hn hdb he hpl) fun σ H Q => tE_mL
/-- a two-place operation that one writes with one operand -/
theorem tE_m1 {op : Vl → Option Vl} {R : V → Hp → VK → Prop} (hR : ∀ H0 own F γ H env σ' S x u z Q, (∀ a, H a = none → H0 a = none) → ER M own F γ H env σ' S → VR M own H0 F γ H x u → op x = some z → (∀ F' H' w, EG F γ H F' γ H' → ER M own F' γ H' env σ' S → VR M own H0 F' γ H' z w → Q w H') → R u H Q)
    (h : tE M W (m1 op ma) σ H Q) : tE M W ma σ H fun u H1 => R u H1 Q := by
  obtain ⟨own, F, γ, env, S, er, q⟩ := h
  refine ⟨own, F, γ, env, S, er, KE_mono (KG_bindE .refl q) ?_⟩
  rintro u H1 ⟨F1, γ1, S1, x, _, g1, er1, v1, _, q1⟩
  revert q1
  show KE M W own F γ H env σ (opt1 op x S1) Q → _
  unfold opt1
  cases eo : op x with
  | none => exact fun q3 => q3.elim
  | some z => exact fun q3 => hR H own F1 γ1 H1 env σ S1 x u z Q (fun a h => g1.back h) er1 v1 eo fun F' H'' w g er3 vr => q3 F' γ1 H'' (g1.trans g) er3 w vr
def vNeg (x : Vl) : Option Vl := match x.dat with
  | some (.int i) => some (.fr (.int (-i)))
  | _ => none
theorem s_neg (ha : ES X W a ma) : ES X W (.UnaryOp .USub a pos) (m1 vNeg ma) := pe_mono (pe_un un_neg ha) fun σ H Q h => tE_m1 (R := fun u H Q => rU (fun i => .int (-i)) u H Q) (fun H0 own F γ H env σ' S x u z Q h0 er vr ho q => by
  unfold vNeg at ho
  split at ho
  · rename_i i hx
    cases ho
    exact ⟨i, vr.int hx, q F H _ .refl er (by simp [VR, Rp])⟩
  · cases ho) h

/-! ### truth -/
def fit (n : Nat) : Bool := decide (n ≤ 16777216)
def vTru (x : Vl) : Option Bool := match x.dat with
  | some .none => some false
  | some (.bool b) => some b
  | some (.int i) => some (i != 0)
  | some (.str z) => if fit z.length then some (z.length != 0) else none
  | some (.list ds) => some (!ds.isEmpty)
  | some (.tuple ds) => some (!ds.isEmpty)
  | _ => none
def optT (op : Vl → Option Bool) (x : Vl) (S : Sto) : Res Bool := match op x with
  | some z => .ok z S
  | none => .stuck
def mTru (ma : ME) : MT := fun env S => (ma env S).bind fun x S1 => optT vTru x S1
theorem isEmpty_rp {K : PySem.W.Frag} {ds : List PyData} {vs : List V} (h : RpAll K F H ds vs) : ds.isEmpty = vs.isEmpty := by
  have := h.length
  cases ds <;> cases vs <;> simp_all
theorem truV_of {x : Vl} {k : Bool} (vr : VR M own H0 F γ H x u) (h : vTru x = some k) : TruV M.K u H k := by
  unfold vTru at h
  split at h
  · rename_i hx
    cases h
    rw [vr.non hx]
    exact rfl
  · rename_i hx
    cases h
    rw [vr.bl hx]
    exact rfl
  · rename_i hx
    cases h
    rw [vr.int hx]
    exact rfl
  · rename_i z hx
    split at h
    · rename_i hf
      cases h
      rw [vr.str hx]
      refine ⟨sz_ok hf, ?_⟩
      by_cases hz : z.length = 0
      · rw [hz]; rfl
      · have e1 : (z.length != 0) = true := by simp [hz]
        have e2 : ((z.length : Int) != 0) = true := by simp; omega
        rw [e1, e2]
    · cases h
  · rename_i ds hx
    cases h
    obtain ⟨p, xs, rfl, h1, h2⟩ := vr.lst hx
    exact .inl ⟨xs, .of h1, by rw [isEmpty_rp h2]⟩
  · rename_i ds hx
    cases h
    obtain ⟨p, xs, rfl, h1, h2⟩ := vr.tup hx
    exact .inr (.inl ⟨xs, h1.t, by rw [isEmpty_rp h2]⟩)
  · cases h
theorem tT_mTru (h : tT M W (mTru ma) σ H Q') : tE M W ma σ H fun x H' => ∃ k, TruV M.K x H' k ∧ Q' k H' := by
  obtain ⟨own, F, γ, env, S, er, q⟩ := h
  refine ⟨own, F, γ, env, S, er, KE_mono (KG_bindE .refl q) ?_⟩
  rintro u H1 ⟨F1, γ1, S1, x, _, g1, er1, v1, _, q1⟩
  revert q1
  show KT M W own F γ H env σ (optT vTru x S1) Q' → _
  unfold optT
  cases eo : vTru x with
  | none => exact fun q3 => q3.elim
  | some z => exact fun q3 => ⟨z, truV_of v1 eo, q3 F1 γ1 H1 g1 er1⟩
/-- any expression as a test -/
theorem t_val (ha : ES X W a ma) (he : ∀ whole, isTrue a X.env whole = (do let v ← whole; standAt a.pos; holding [v] (truthy v)) := by intro _; rfl) : ET X W a (mTru ma) :=
  pt_mono (pt_truth ha he) fun σ H Q => tT_mTru
/-- a comparison as a test -/
def optB (f : PyData → PyData → Option Bool) (x y : Vl) (S : Sto) : Res Bool := match x.dat, y.dat with
  | some d, some e => match f d e with
    | some b => .ok b S
    | none => .stuck
  | _, _ => .stuck
def m2B (f : PyData → PyData → Option Bool) (ma mb : ME) : MT := fun env S => (ma env S).bind fun x S1 => (mb env S1).bind fun y S2 => optB f x y S2
theorem tT_m2B {f : PyData → PyData → Option Bool} {Q' : Bool → Hp → Prop} (h : tT M W (m2B f ma mb) σ H Q') : tTest (tOp (r2of M (b2 f)) (tE M W ma) (tE M W mb)) σ H Q' := by
  obtain ⟨own, F, γ, env, S, er, q⟩ := h
  refine ⟨own, F, γ, env, S, er, KE_mono (KG_bindE .refl q) ?_⟩
  rintro u H1 ⟨F1, γ1, S1, x, _, g1, er1, v1, _, q1⟩
  refine ⟨own, F1, γ1, env, S1, er1, KE_mono (KG_bindE g1 q1) ?_⟩
  rintro v H2 ⟨F2, γ2, S2, y, e2, g2, er2, v2, _, q2⟩
  revert q2
  show KT M W own F γ H env σ (optB f x y S2) Q' → _
  unfold optB
  cases hx : x.dat with
  | none => exact fun q2 => q2.elim
  | some d =>
    cases hy : y.dat with
    | none => exact fun q2 => q2.elim
    | some e =>
      dsimp only
      cases hf : f d e with
      | none => exact fun q2 => q2.elim
      | some b =>
        intro q2
        refine ⟨H, own, F2, γ2, env, σ, S2, x, y, .fr (.bool b), fun a h => g2.back h, er2, v1.mono e2, v2, ?_, fun F' H' w' g er' vr => ⟨b, vr.bl rfl, q2 F' γ2 H' (g2.trans g) er'⟩⟩
        unfold b2
        rw [hx, hy]
        dsimp only
        rw [hf]
        rfl
theorem t_cmp {o : CmpOp} {f : PyData → PyData → Option Bool} (ho : OpD X (compareOp o) (b2 f)) (ha : ES X W a ma) (hb : ES X W b mb) (hm : behindInMarks o b = false) : ET X W (.Compare a [o] [b] pos) (m2B f ma mb) :=
  pt_mono (pt_cmpR ho.opR ha hb hm) fun σ H Q => tT_m2B
/-- a op b op' c -/
def mCh (f g : PyData → PyData → Option Bool) (ma mb mc : ME) : MT := fun env S => (ma env S).bind fun x S1 => (mb env S1).bind fun y S2 => (optB f x y S2).bind fun k S3 => if k then (mc env S3).bind fun z S4 => optB g y z S4 else .ok false S3
def mOfT (mt : MT) : ME := fun env S => (mt env S).bind fun k S1 => .ok (.fr (.bool k)) S1
theorem optB_some {f : PyData → PyData → Option Bool} {x y : Vl} {P : Bool → (Addr → Prop) → List Addr → Hp → Sto → Prop} (h : KG M W own F γ H env σ (optB f x y S) P) : ∃ b, b2 f x y = some (.fr (.bool b)) ∧ KG M W own F γ H env σ (.ok b S) P := by
  revert h
  unfold optB b2
  cases hx : x.dat with
  | none => exact fun q2 => q2.elim
  | some d =>
    cases hy : y.dat with
    | none => exact fun q2 => q2.elim
    | some e =>
      dsimp only
      cases hf : f d e with
      | none => exact fun q2 => q2.elim
      | some b => exact fun q => ⟨b, rfl, q⟩
theorem KG_bindB {α : Type} {P : α → (Addr → Prop) → List Addr → Hp → Sto → Prop} {f : PyData → PyData → Option Bool} {x y : Vl} {g : Bool → Sto → Res α} (h : KG M W own F γ H env σ ((optB f x y S).bind g) P) : ∃ b, b2 f x y = some (.fr (.bool b)) ∧ KG M W own F γ H env σ (g b S) P := by
  revert h
  unfold optB b2
  cases hx : x.dat with
  | none => exact fun q2 => q2.elim
  | some d =>
    cases hy : y.dat with
    | none => exact fun q2 => q2.elim
    | some e =>
      dsimp only
      cases hf : f d e with
      | none => exact fun q2 => q2.elim
      | some b => exact fun q => ⟨b, rfl, q⟩
theorem rp_bl {K : PySem.W.Frag} {b : Bool} {w : V} (h : Rp K F H (.bool b) w) : w = .bl b := by simpa [Rp] using h
theorem tT_mCh {f g : PyData → PyData → Option Bool} {Q' : Bool → Hp → Prop} (h : tT M W (mCh f g ma mb mc) σ H Q') : tTest (tChain (r2of M (b2 f)) (r2of M (b2 g)) (tE M W ma) (tE M W mb) (tE M W mc)) σ H Q' := by
  obtain ⟨own, F, γ, env, S, er, q⟩ := h
  refine ⟨own, F, γ, env, S, er, KE_mono (KG_bindE .refl q) ?_⟩
  rintro u H1 ⟨F1, γ1, S1, x, _, g1, er1, v1, _, q1⟩
  refine ⟨own, F1, γ1, env, S1, er1, KE_mono (KG_bindE g1 q1) ?_⟩
  rintro v H2 ⟨F2, γ2, S2, y, e2, g2, er2, v2, _, q2⟩
  obtain ⟨b, hb, q3⟩ := KG_bindB q2
  refine ⟨H, own, F2, γ2, env, σ, S2, x, y, _, fun a h => g2.back h, er2, v1.mono e2, v2, hb, fun F3 H3 w' g3 er3 vr => ⟨b, vr.bl rfl, ?_⟩⟩
  cases b with
  | false => exact ⟨false, rfl, q3 F3 γ2 H3 (g2.trans g3) er3⟩
  | true =>
    refine ⟨own, F3, γ2, env, S2, er3, KE_mono (KG_bindE (g2.trans g3) q3) ?_⟩
    rintro w4 H4 ⟨F4, γ4, S4, z, e4, g4, er4, v4, _, q4⟩
    obtain ⟨c, hc, q5⟩ := optB_some q4
    exact ⟨H, own, F4, γ4, env, σ, S4, y, z, _, fun a h => g4.back h, er4, (v2.mono g3).mono e4, v4, hc, fun F5 H5 w5 g5 er5 vr5 => ⟨c, vr5.bl rfl, q5 F5 γ4 H5 (g4.trans g5) er5⟩⟩
theorem t_chain {o o' : CmpOp} {f g : PyData → PyData → Option Bool} (ho : OpD X (compareOp o) (b2 f)) (ho' : OpD X (compareOp o') (b2 g)) (ha : ES X W a ma) (hb : ES X W b mb) (hc : ES X W c mc) (hm : lastMarks [o, o'] [b, c] = false := by with_unfolding_all rfl) :
    ET X W (.Compare a [o, o'] [b, c] pos) (mCh f g ma mb mc) := pt_mono (pt_chain ho.opR ho'.opR ha hb hc hm) fun σ H Q => tT_mCh
theorem tE_mCh {f g : PyData → PyData → Option Bool} (h : tE M W (mOfT (mCh f g ma mb mc)) σ H Q) : tChain (r2of M (b2 f)) (r2of M (b2 g)) (tE M W ma) (tE M W mb) (tE M W mc) σ H Q := by
  obtain ⟨own, F, γ, env, S, er, q⟩ := h
  have q0 : KT M W own F γ H env σ (mCh f g ma mb mc env S) fun b H' => Q (.bl b) H' := by
    refine KG_mono (KG_bindT .refl q) ?_
    intro b F' γ' H' S' g er' q1
    obtain ⟨F1, γ1, S1, _, g1, er1, q2⟩ := q1
    exact q2 F1 γ1 H' g1 er1 (.bl b) (by simp [VR, Rp])
  refine ⟨own, F, γ, env, S, er, KE_mono (KG_bindE .refl q0) ?_⟩
  rintro u H1 ⟨F1, γ1, S1, x, _, g1, er1, v1, _, q1⟩
  refine ⟨own, F1, γ1, env, S1, er1, KE_mono (KG_bindE g1 q1) ?_⟩
  rintro v H2 ⟨F2, γ2, S2, y, e2, g2, er2, v2, _, q2⟩
  obtain ⟨b, hb, q3⟩ := KG_bindB q2
  refine ⟨H, own, F2, γ2, env, σ, S2, x, y, _, fun a h => g2.back h, er2, v1.mono e2, v2, hb, fun F3 H3 w' g3 er3 vr => ⟨b, vr.bl rfl, ?_⟩⟩
  cases b with
  | false => exact q3 F3 γ2 H3 (g2.trans g3) er3
  | true =>
    refine ⟨own, F3, γ2, env, S2, er3, KE_mono (KG_bindE (g2.trans g3) q3) ?_⟩
    rintro w4 H4 ⟨F4, γ4, S4, z, e4, g4, er4, v4, _, q4⟩
    obtain ⟨c, hc, q5⟩ := optB_some q4
    exact ⟨H, own, F4, γ4, env, σ, S4, y, z, _, fun a h => g4.back h, er4, (v2.mono g3).mono e4, v4, hc, fun F5 H5 w5 g5 er5 vr5 => by
      rw [show w5 = V.bl c from vr5.bl rfl]
      exact q5 F5 γ4 H5 (g4.trans g5) er5⟩
theorem s_chain {o o' : CmpOp} {f g : PyData → PyData → Option Bool} (ho : OpD X (compareOp o) (b2 f)) (ho' : OpD X (compareOp o') (b2 g)) (ha : ES X W a ma) (hb : ES X W b mb) (hc : ES X W c mc) (hm : lastMarks [o, o'] [b, c] = false := by with_unfolding_all rfl) :
    ES X W (.Compare a [o, o'] [b, c] pos) (mOfT (mCh f g ma mb mc)) := pe_mono (pe_chain ho.opR ho'.opR ha hb hc hm) fun σ H Q => tE_mCh

/-! ### and, or, not, if -/
def mAnd (mt mu : MT) : MT := fun env S => (mt env S).bind fun k S1 => if k then mu env S1 else .ok false S1
def mOr (mt mu : MT) : MT := fun env S => (mt env S).bind fun k S1 => if k then .ok true S1 else mu env S1
def mNot (mt : MT) : MT := fun env S => (mt env S).bind fun k S1 => .ok (!k) S1
theorem KT_step {P : Bool → Hp → Prop} {x : Res Bool} (g : EG F γ H F1 γ1 H1) (h : KT M W own F γ H env σ x P) : KT M W own F1 γ1 H1 env σ x P := by
  cases x with
  | ok b S' => exact fun F' γ' H' e er => h F' γ' H' (g.trans e) er
  | exc e S' => exact KX.step g h
  | stuck => exact h
theorem KE_step {x : Res Vl} (g : EG F γ H F1 γ1 H1) (h : KE M W own F γ H env σ x Q) : KE M W own F1 γ1 H1 env σ x Q := by
  cases x with
  | ok b S' => exact fun F' γ' H' e er u vr => h F' γ' H' (g.trans e) er u (vr.back g)
  | exc e S' => exact KX.step g h
  | stuck => exact h
theorem t_and1 (ha : ET X W a mt) : EW X W (.BoolOp .And [a] pos) mt := pw_and1 ha
theorem t_or1 (ha : ET X W a mt) : EW X W (.BoolOp .Or [a] pos) mt := pw_or1 ha
theorem t_and (ha : ET X W a mt) (hb : EW X W (.BoolOp .And (b :: es) pos) mu) : EW X W (.BoolOp .And (a :: b :: es) pos) (mAnd mt mu) := pw_mono (pw_and ha hb) fun σ H Q ⟨own, F, γ, env, S, er, q⟩ => by
  refine ⟨own, F, γ, env, S, er, KG_mono (KG_bindT .refl q) ?_⟩
  intro c F' γ' H' S' g er' ⟨F1, γ1, S1, _, g1, er1, q2⟩
  cases c with
  | true => exact ⟨own, F1, γ1, env, S1, er1, KT_step g1 q2⟩
  | false => exact q2 F1 γ1 H' g1 er1
theorem t_or (ha : ET X W a mt) (hb : EW X W (.BoolOp .Or (b :: es) pos) mu) : EW X W (.BoolOp .Or (a :: b :: es) pos) (mOr mt mu) := pw_mono (pw_or ha hb) fun σ H Q ⟨own, F, γ, env, S, er, q⟩ => by
  refine ⟨own, F, γ, env, S, er, KG_mono (KG_bindT .refl q) ?_⟩
  intro c F' γ' H' S' g er' ⟨F1, γ1, S1, _, g1, er1, q2⟩
  cases c with
  | false => exact ⟨own, F1, γ1, env, S1, er1, KT_step g1 q2⟩
  | true => exact q2 F1 γ1 H' g1 er1
theorem t_bool (h : EW X W a mt) : ET X W a mt := PW.pt h
theorem t_not (ha : ET X W a mt) : ET X W (.UnaryOp .Not a pos) (mNot mt) := pt_mono (pt_not ha) fun σ H Q ⟨own, F, γ, env, S, er, q⟩ => by
  refine ⟨own, F, γ, env, S, er, KG_mono (KG_bindT .refl q) ?_⟩
  intro c F' γ' H' S' g er' ⟨F1, γ1, S1, _, g1, er1, q2⟩
  exact q2 F1 γ1 H' g1 er1
def mIf (mt : MT) (ma mb : ME) : ME := fun env S => (mt env S).bind fun k S1 => if k then ma env S1 else mb env S1
theorem s_if (hc : ET X W c mt) (ha : ES X W a ma) (hb : ES X W b mb) : ES X W (.IfExp c a b pos) (mIf mt ma mb) := pe_mono (pe_ifExp hc ha hb) fun σ H Q ⟨own, F, γ, env, S, er, q⟩ => by
  refine ⟨own, F, γ, env, S, er, KG_mono (KG_bindT .refl q) ?_⟩
  intro c F' γ' H' S' g er' ⟨F1, γ1, S1, _, g1, er1, q2⟩
  cases c with
  | true => exact ⟨own, F1, γ1, env, S1, er1, KE_step g1 q2⟩
  | false => exact ⟨own, F1, γ1, env, S1, er1, KE_step g1 q2⟩
/-- as values: all but the last are bools -/
def mAndV (ma mb : ME) : ME := fun env S => (ma env S).bind fun x S1 => match x.dat with
  | some (.bool k) => if k then mb env S1 else .ok (.fr (.bool false)) S1
  | _ => .stuck
def mOrV (ma mb : ME) : ME := fun env S => (ma env S).bind fun x S1 => match x.dat with
  | some (.bool k) => if k then .ok (.fr (.bool true)) S1 else mb env S1
  | _ => .stuck
theorem s_one {o : BoolOp} (ha : ES X W a ma) : ES X W (.BoolOp o [a] pos) ma := pe_one ha
theorem s_and (ha : ES X W a ma) (hb : ES X W (.BoolOp .And (b :: es) pos) mb) : ES X W (.BoolOp .And (a :: b :: es) pos) (mAndV ma mb) := pe_mono (pe_and ha hb) fun σ H Q ⟨own, F, γ, env, S, er, q⟩ => by
  refine ⟨own, F, γ, env, S, er, KE_mono (KG_bindE .refl q) ?_⟩
  rintro u H1 ⟨F1, γ1, S1, x, _, g1, er1, v1, _, q1⟩
  revert q1
  split
  · rename_i k hx
    intro q1
    refine ⟨k, v1.bl hx, ?_⟩
    cases k with
    | true => exact ⟨own, F1, γ1, env, S1, er1, KE_step g1 q1⟩
    | false => exact q1 F1 γ1 H1 g1 er1 _ (by simp [VR, Rp])
  · exact fun q => q.elim
theorem s_or (ha : ES X W a ma) (hb : ES X W (.BoolOp .Or (b :: es) pos) mb) : ES X W (.BoolOp .Or (a :: b :: es) pos) (mOrV ma mb) := pe_mono (pe_or ha hb) fun σ H Q ⟨own, F, γ, env, S, er, q⟩ => by
  refine ⟨own, F, γ, env, S, er, KE_mono (KG_bindE .refl q) ?_⟩
  rintro u H1 ⟨F1, γ1, S1, x, _, g1, er1, v1, _, q1⟩
  revert q1
  split
  · rename_i k hx
    intro q1
    refine ⟨k, v1.bl hx, ?_⟩
    cases k with
    | false => exact ⟨own, F1, γ1, env, S1, er1, KE_step g1 q1⟩
    | true => exact q1 F1 γ1 H1 g1 er1 _ (by simp [VR, Rp])
  · exact fun q => q.elim
/-- not e as a value -/
def mNotV (ma : ME) : ME := fun env S => (ma env S).bind fun x S1 => match vTru x with
  | some k => .ok (.fr (.bool (!k))) S1
  | none => .stuck
theorem s_not (ha : ES X W a ma) : ES X W (.UnaryOp .Not a pos) (mNotV ma) := pe_mono (pe_notT ha) fun σ H Q ⟨own, F, γ, env, S, er, q⟩ => by
  refine ⟨own, F, γ, env, S, er, KE_mono (KG_bindE .refl q) ?_⟩
  rintro u H1 ⟨F1, γ1, S1, x, _, g1, er1, v1, _, q1⟩
  revert q1
  cases eo : vTru x with
  | none => exact fun q => q.elim
  | some k => exact fun q1 => ⟨k, truV_of v1 eo, q1 F1 γ1 H1 g1 er1 _ (by simp [VR, Rp])⟩

/-! ### displays -/
/-- all are frozen -/
def frzL : List Vl → Option (List PyData)
  | [] => some []
  | .fr d :: r => (frzL r).map (d :: ·)
  | .ow d :: r => (frzL r).map (d :: ·)
  | _ :: _ => none
def tmpA : List Vl → List V → Addr → Prop
  | .ow _ :: rs, .ref b :: us, a => a = b ∨ tmpA rs us a
  | _ :: rs, _ :: us, a => tmpA rs us a
  | _, _, _ => False
theorem tmpA_cons {r : Vl} {u : V} {rs : List Vl} {us : List V} {a : Addr} (h : tmpA rs us a) : tmpA (r :: rs) (u :: us) a := by
  cases r <;> cases u <;> first | exact .inr h | exact h
theorem tmpA_spec : ∀ {rs : List Vl} {us : List V}, Paired (VR M own H0 F γ H) rs us → ∀ a, tmpA rs us a → own a = none ∧ a ∉ γ ∧ H a ≠ none ∧ H0 a = none
  | _, _, .nil, a, h => h.elim
  | r :: rs, u :: us, .cons v p, a, h => by
    have ih := tmpA_spec p a
    cases r with
    | ow d =>
      obtain ⟨q, rfl, h1, h2, h3, h4, h5⟩ := v
      rcases (show a = q ∨ tmpA rs us a from h) with rfl | h
      · exact ⟨h2, h3, h5.there, h4⟩
      · exact ih h
    | fr d => cases u <;> exact ih h
    | bo i d => cases u <;> exact ih h
    | rf k => cases u <;> exact ih h
    | sc k => cases u <;> exact ih h
    | ex k => cases u <;> exact ih h
theorem freezeL1 (mo : Mo F H F2 H) : ∀ {rs : List Vl} {us : List V} {ds : List PyData}, Paired (VR M own H0 F γ H) rs us → frzL rs = some ds → (∀ a, tmpA rs us a → F2 a) → RpAll M.K F2 H ds us
  | _, _, ds, .nil, h, _ => by cases h; exact .nil
  | r :: rs, u :: us, ds, .cons v p, h, hf => by
    cases r with
    | fr d =>
      obtain ⟨ds', h1, rfl⟩ := Option.map_eq_some_iff.mp (show (frzL rs).map (d :: ·) = some ds from h)
      exact .cons (Rp.mono mo d u v) (freezeL1 mo p h1 fun a t => hf a (tmpA_cons t))
    | ow d =>
      obtain ⟨ds', h1, rfl⟩ := Option.map_eq_some_iff.mp (show (frzL rs).map (d :: ·) = some ds from h)
      obtain ⟨q, rfl, g1, g2, g3, g4, g5⟩ := v
      exact .cons (g5.frz mo (hf q (.inl rfl))) (freezeL1 mo p h1 fun a t => hf a (tmpA_cons t))
    | bo i d => cases h
    | rf k => cases h
    | sc ns => cases h
    | ex p => cases h
theorem freezeL {rs : List Vl} {us : List V} {ds : List PyData} (er : ER M own F γ H env σ S) (p : Paired (VR M own H0 F γ H) rs us) (h : frzL rs = some ds) :
    ∃ F2, Mo F H F2 H ∧ ER M own F2 γ H env σ S ∧ RpAll M.K F2 H ds us ∧ ∀ a, F2 a → F a ∨ H0 a = none :=
  ⟨fun a => F a ∨ tmpA rs us a, Mo.addF, er.addF fun a t => ⟨(tmpA_spec p a t).1, (tmpA_spec p a t).2.1, (tmpA_spec p a t).2.2.1⟩, freezeL1 Mo.addF p h fun a t => .inr t, fun a z => z.imp id fun t => (tmpA_spec p a t).2.2.2⟩
def vTup (xs : List Vl) : Option Vl := if sz xs.length then (frzL xs).map fun ds => .fr (.tuple ds) else none
def vLst (xs : List Vl) : Option Vl := if sz xs.length then (frzL xs).map fun ds => .ow (.list ds) else none
theorem s_tup {x1} (hr : EA X W es mr) : ES X W (.Tuple es x1 pos) (mL vTup mr) := pe_mono (pe_tup1 hr) fun σ H Q ⟨own, F, γ, env, S, er, q⟩ => by
  refine ⟨own, F, γ, env, S, er, KG_mono (KG_bindA .refl q) ?_⟩
  intro rs F' γ' H' S' e' er' q2 us vs
  obtain ⟨F2, γ2, S2, rs2, e2, g2, er2, p2, p3, q3⟩ := q2 us vs
  revert q3
  show KE (md X) W own F γ H env σ (optL vTup rs2 S2) Q → _
  unfold optL vTup
  by_cases hz : sz rs2.length = true
  · rw [if_pos hz]
    cases ho : frzL rs2 with
    | none => exact fun q => q.elim
    | some ds =>
      intro q3
      obtain ⟨F3, m3, er3, rp, hf⟩ := freezeL er2 p2 ho
      have g3 := g2.frz m3 hf
      refine ⟨by rw [← p2.length]; exact sz_ok hz, fun p its hp => q3 F3 γ2 _ (g3.trans (EG.new hp)) (er3.new hp) _ (vr_tup er3 hp rp)⟩
  · rw [if_neg hz]
    exact fun q => q.elim
theorem s_lst (hr : EA X W es mr) : ES X W (.List es pos) (mL vLst mr) := pe_mono (pe_lst hr) fun σ H Q ⟨own, F, γ, env, S, er, q⟩ => by
  refine ⟨own, F, γ, env, S, er, KG_mono (KG_bindA .refl q) ?_⟩
  intro rs F' γ' H' S' e' er' q2 us vs
  obtain ⟨F2, γ2, S2, rs2, e2, g2, er2, p2, p3, q3⟩ := q2 us vs
  revert q3
  show KE (md X) W own F γ H env σ (optL vLst rs2 S2) Q → _
  unfold optL vLst
  by_cases hz : sz rs2.length = true
  · rw [if_pos hz]
    cases ho : frzL rs2 with
    | none => exact fun q => q.elim
    | some ds =>
      intro q3
      obtain ⟨F3, m3, er3, rp, hf⟩ := freezeL er2 p2 ho
      have g3 := g2.frz m3 hf
      refine ⟨by rw [← p2.length]; exact sz_ok hz, fun p hp => q3 F3 γ2 _ (g3.trans (EG.new hp)) (er3.new hp) _ (vr_lst er3 hp (g3.back hp) rp)⟩
  · rw [if_neg hz]
    exact fun q => q.elim
end
end TL
end

section
set_option Elab.async false
set_option linter.all false
set_option maxRecDepth 100000
set_option maxHeartbeats 1000000
namespace TL
open PySem PySem.Spec PyProof.Rows L2 PySem.W
section
variable {X : Cx} {W : WX} {N Nv G : List Str} {ls : List Nat} {P : Pg} {k : Nat} {M : Md} {own : Addr → Option Nat} {F F' F1 F2 : Addr → Prop} {γ γ' γ1 γ2 : List Addr} {H H' H0 H1 H2 : Hp} {env : En} {σ : L2.St} {S S' S1 : Sto} {r : Vl} {u : V} {Q : VK}
variable {a b c e : Expr} {es : List Expr} {ma mb mc : ME} {mt mu mv : MT} {mr : MA} {pos : Pos}
theorem SqS.l {K : PySem.W.Frag} {p : Addr} {xs : List V} (h : SqS K H p xs) : SqL K H p xs := by
  rcases h with ⟨o, h⟩ | h
  · exact .inl (.inr ⟨o, h⟩)
  · exact .inr h
theorem VR.sc {ns : List Int} (h : VR M own H0 F γ H (.sc ns) u) : ∃ p, u = .ref p ∧ SqL M.K H p (ns.map .int) := by
  obtain ⟨p, rfl, h⟩ := h
  exact ⟨p, rfl, h.l⟩
theorem paired1 {α β : Type} {A : α → β → Prop} {x : α} {us : List β} (h : Paired A [x] us) : ∃ u, us = [u] ∧ A x u := by
  cases h with
  | cons h t => cases t; exact ⟨_, rfl, h⟩
theorem paired2 {α β : Type} {A : α → β → Prop} {x y : α} {us : List β} (h : Paired A [x, y] us) : ∃ u v, us = [u, v] ∧ A x u ∧ A y v := by
  cases h with
  | cons h t => obtain ⟨v, rfl, q⟩ := paired1 t; exact ⟨_, _, rfl, h, q⟩
/-! ### len -/
def vLen1 : Vl → Option Vl
  | .sc ns => some (.fr (.int ns.length))
  | x => match x.dat with
    | some (.list ds) => some (.fr (.int ds.length))
    | some (.tuple ds) => some (.fr (.int ds.length))
    | some (.str z) => if fit z.length then some (.fr (.int z.length)) else none
    | _ => none
def on1 (f : Vl → Option Vl) : List Vl → Option Vl
  | [x] => f x
  | _ => none
def on2 (f : Vl → Vl → Option Vl) : List Vl → Option Vl
  | [x, y] => f x y
  | _ => none
theorem on1_some {f : Vl → Option Vl} {xs : List Vl} {z : Vl} (h : on1 f xs = some z) : ∃ x, xs = [x] ∧ f x = some z := by
  match xs, h with
  | [x], h => exact ⟨x, rfl, h⟩
theorem on2_some {f : Vl → Vl → Option Vl} {xs : List Vl} {z : Vl} (h : on2 f xs = some z) : ∃ x y, xs = [x, y] ∧ f x y = some z := by
  match xs, h with
  | [x, y], h => exact ⟨x, y, rfl, h⟩
def vLen := on1 vLen1
theorem d_len : CallD X (.builtin "len") vLen := by
  intro pins s σ H H0 own F γ env σ' S xs z us uu Q I r h0 er p ho q
  obtain ⟨x, rfl, ho⟩ := on1_some ho
  obtain ⟨u, rfl, v⟩ := paired1 p
  have go : ∀ (n : Nat), z = .fr (.int n) → LenV X.K u H n → wpAny (model X.prog X.w) X.A (call (.builtin "len") uu) (EP X pins σ Q) X.xe s := fun n hz hl =>
    call_len pins s σ H [u] uu Q I r ⟨u, n, rfl, hl, q F H _ .refl er (by rw [hz]; simp [VR, Rp])⟩
  have main : ∀ o, x.dat = some o → (match (some o : Option PyData) with
    | some (.list ds) => some (Vl.fr (.int ds.length))
    | some (.tuple ds) => some (.fr (.int ds.length))
    | some (.str z) => if fit z.length then some (.fr (.int z.length)) else none
    | _ => none) = some z → wpAny (model X.prog X.w) X.A (call (.builtin "len") uu) (EP X pins σ Q) X.xe s := fun o hx ho => by
    cases o with
    | list ds =>
      cases ho
      obtain ⟨a, xs, rfl, h1, h2⟩ := v.lst hx
      exact go _ rfl (.inl ⟨xs, .of h1, h2.length⟩)
    | tuple ds =>
      cases ho
      obtain ⟨a, xs, rfl, h1, h2⟩ := v.tup hx
      exact go _ rfl (.inr ⟨xs, h1.t, h2.length⟩)
    | str z' =>
      dsimp only at ho
      split at ho
      · rename_i hf
        cases ho
        obtain rfl := v.str hx
        exact go _ rfl ⟨sz_ok hf, rfl⟩
      · cases ho
    | _ => cases ho
  cases x with
  | sc ns =>
    cases ho
    obtain ⟨p, rfl, h⟩ := v.sc
    exact go _ rfl (.inl ⟨_, h, by rw [List.length_map]⟩)
  | fr d => exact main d rfl ho
  | ow d => exact main d rfl ho
  | bo i d => exact main d rfl ho
  | rf k => cases ho
  | ex p => cases ho

/-! ### a[b] -/
def vIx (x y : Vl) : Option Vl := match y.dat with
  | some (.int i) => match x with
    | .sc ns => (atI ns i).map fun n => .fr (.int n)
    | _ => match x.dat with
      | some (.list ds) => (atI ds i).map .fr
      | some (.tuple ds) => (atI ds i).map .fr
      | some (.str z) => if fit z.length then (atI z.cps.toList i).map fun c => .fr (.str ⟨#[c]⟩) else none
      | _ => none
  | _ => none
theorem RpAll.atI {K : PySem.W.Frag} {ds : List PyData} {vs : List V} {i : Int} {d : PyData} (h : RpAll K F H ds vs) (e : L2.atI ds i = some d) : ∃ v, L2.atI vs i = some v ∧ Rp K F H d v := by
  unfold L2.atI at e ⊢
  rw [← h.length]
  cases hj : ixN ds.length i with
  | none => rw [hj] at e; cases e
  | some j =>
    rw [hj] at e
    exact h.get (show ds[j]? = some d from e)
theorem atI_map {α β : Type} (f : α → β) (xs : List α) (i : Int) : atI (xs.map f) i = (atI xs i).map f := by
  unfold atI
  rw [List.length_map]
  cases ixN xs.length i with
  | none => rfl
  | some j => simp
theorem i_ix : IxR X (r2of (md X) vIx) := by
  intro value slice pins s σ H u v uu vv Q I r1 r2 ⟨H0, own, F, γ, env, σ', S, x, y, z, h0, er, v1, v2, ho, q⟩ hs
  unfold vIx at ho
  split at ho
  · rename_i i hy
    rw [v2.int hy] at r2
    have main : ∀ o, x.dat = some o → (match (some o : Option PyData) with
      | some (.list ds) => (atI ds i).map Vl.fr
      | some (.tuple ds) => (atI ds i).map .fr
      | some (.str z) => if fit z.length then (atI z.cps.toList i).map fun c => .fr (.str ⟨#[c]⟩) else none
      | _ => none) = some z → wpAny (model X.prog X.w) X.A (subscriptTail value slice uu vv) (EP X pins σ Q) X.xe s := fun o hx ho => by
      cases o with
      | list ds =>
        obtain ⟨d, hd, rfl⟩ := Option.map_eq_some_iff.mp ho
        obtain ⟨a, xs, rfl, h1, h2⟩ := v1.lst hx
        obtain ⟨w, hw, rw'⟩ := h2.atI hd
        exact ix_list value slice pins s σ H _ _ uu vv Q I r1 r2 ⟨a, xs, i, w, rfl, rfl, .of h1, hw, q F H w .refl er rw'⟩ hs
      | tuple ds =>
        obtain ⟨d, hd, rfl⟩ := Option.map_eq_some_iff.mp ho
        obtain ⟨a, xs, rfl, h1, h2⟩ := v1.tup hx
        obtain ⟨w, hw, rw'⟩ := h2.atI hd
        exact ix_tup value slice pins s σ H _ _ uu vv Q I r1 r2 ⟨a, xs, i, w, rfl, rfl, h1.t, hw, q F H w .refl er rw'⟩ hs
      | str z' =>
        dsimp only at ho
        split at ho
        · rename_i hf
          obtain ⟨c, hc, rfl⟩ := Option.map_eq_some_iff.mp ho
          rw [v1.str hx] at r1
          exact ix_str value slice pins s σ H _ _ uu vv Q I r1 r2 ⟨z', i, c, rfl, rfl, sz_ok hf, hc, q F H _ .refl er (by simp [VR, Rp])⟩ hs
        · cases ho
      | _ => cases ho
    cases x with
    | sc ns =>
      obtain ⟨n, hn, rfl⟩ := Option.map_eq_some_iff.mp ho
      obtain ⟨p, rfl, h⟩ := v1.sc
      exact ix_list value slice pins s σ H _ _ uu vv Q I r1 r2 ⟨p, _, i, .int n, rfl, rfl, h, by rw [atI_map, hn]; rfl, q F H _ .refl er (by simp [VR, Rp])⟩ hs
    | fr d => exact main d rfl ho
    | ow d => exact main d rfl ho
    | bo i d => exact main d rfl ho
    | rf k => cases ho
    | ex p => cases ho
  · cases ho
theorem s_ix (ha : ES X W a ma) (hb : ES X W b mb) (hs : PlainIx b := by intro _ _; rfl) : ES X W (.Subscript a b pos) (m2 vIx ma mb) := pe_mono (pe_ix i_ix ha hb hs) fun σ H Q => tE_m2

/-! ### a[lo:hi] -/
abbrev MO := En → Sto → Res (Option Int)
def tO (M : Md) (W : WX) (mo : MO) : TO := fun σ H Q => ∃ own F γ env S, ER M own F γ H env σ S ∧ KG M W own F γ H env σ (mo env S) fun o _ _ H' _ => Q o H'
def EO (X : Cx) (W : WX) (e : Option Expr) (m : MO) : Prop := PO X e (tO (md X) W m)
theorem po_mono {e : Option Expr} {t t' : TO} (h : PO X e t) (w : ∀ σ H Q, t' σ H Q → t σ H Q) : PO X e t' := ⟨fun pins s σ H Q I q => h.run pins s σ H Q I (w σ H Q q)⟩
def mNone : MO := fun _ S => .ok none S
def mPart (ma : ME) : MO := fun env S => (ma env S).bind fun x S1 => match x.dat with
  | some (.int i) => .ok (some i) S1
  | _ => .stuck
theorem o_none : EO X W none mNone := po_mono po_none fun σ H Q ⟨own, F, γ, env, S, er, q⟩ => q F γ H .refl er
theorem o_some (ha : ES X W a ma) : EO X W (some a) (mPart ma) := po_mono (po_some ha) fun σ H Q ⟨own, F, γ, env, S, er, q⟩ => by
  refine ⟨own, F, γ, env, S, er, KE_mono (KG_bindE .refl q) ?_⟩
  rintro u H1 ⟨F1, γ1, S1, x, _, g1, er1, v1, _, q1⟩
  revert q1
  split
  · rename_i i hx
    exact fun q1 => ⟨i, v1.int hx, q1 F1 γ1 H1 g1 er1⟩
  · exact fun q => q.elim
theorem KG_bindO {α : Type} {P : α → (Addr → Prop) → List Addr → Hp → Sto → Prop} {x : Res (Option Int)} {f : Option Int → Sto → Res α} (g : EG F γ H F1 γ1 H1) (h : KG M W own F γ H env σ (x.bind f) P) :
    KG M W own F1 γ1 H1 env σ x fun b F2 γ2 H2 S2 => EG F1 γ1 H1 F2 γ2 H2 ∧ EG F γ H F2 γ2 H2 ∧ ER M own F2 γ2 H2 env σ S2 ∧ KG M W own F γ H env σ (f b S2) P := by
  cases x with
  | ok r S' => exact fun F' γ' H' e er => ⟨e, g.trans e, er, h⟩
  | exc e S' => exact KX.step g h
  | stuck => exact h
def cutL {α : Type} (xs : List α) (lo hi : Option Int) : List α := (xs.drop (HT.sIx xs.length 0 lo)).take (HT.sIx xs.length xs.length hi - HT.sIx xs.length 0 lo)
theorem cutL_rp {K : PySem.W.Frag} {ds : List PyData} {vs : List V} (h : RpAll K F H ds vs) (lo hi : Option Int) : RpAll K F H (cutL ds lo hi) (cutV vs lo hi) := by
  unfold cutL cutV
  rw [← h.length]
  exact (h.drop _).take _
theorem cut_whole {α : Type} {xs : List α} {lo hi : Option Int} (h : HT.sIx xs.length 0 lo = 0 ∧ HT.sIx xs.length xs.length hi = xs.length) : cutL xs lo hi = xs := by
  unfold cutL
  rw [h.1, h.2]
  simp
def vSl (x : Vl) (lo hi : Option Int) : Option Vl := match x.dat with
  | some (.list ds) => some (.ow (.list (cutL ds lo hi)))
  | some (.tuple ds) => some (.fr (.tuple (cutL ds lo hi)))
  | some (.str z) => if fit z.length then some (.fr (.str (cutS z lo hi))) else none
  | _ => none
def mSl (ma : ME) (ml mh : MO) : ME := fun env S => (ma env S).bind fun x S1 => (ml env S1).bind fun l S2 => (mh env S2).bind fun h S3 => match vSl x l h with
  | some z => .ok z S3
  | none => .stuck
theorem s_slice {lo hi : Option Expr} {ml mh : MO} {p2 : Pos} (ha : ES X W a ma) (hl : EO X W lo ml) (hh : EO X W hi mh) : ES X W (.Subscript a (.Slice lo hi none p2) pos) (mSl ma ml mh) := by
  refine pe_mono (pe_slice (sl_tup1.or (sl_list.or sl_str)) ha hl hh) fun σ H Q ⟨own, F, γ, env, S, er, q⟩ => ?_
  refine ⟨own, F, γ, env, S, er, KE_mono (KG_bindE .refl q) ?_⟩
  rintro u H1 ⟨F1, γ1, S1, x, _, g1, er1, v1, _, q1⟩
  refine ⟨own, F1, γ1, env, S1, er1, KG_mono (KG_bindO g1 q1) ?_⟩
  rintro l F2 γ2 H2 S2 - - ⟨e2, g2, er2, q2⟩
  refine ⟨own, F2, γ2, env, S2, er2, KG_mono (KG_bindO g2 q2) ?_⟩
  rintro h F3 γ3 H3 S3 - - ⟨e3, g3, er3, q3⟩
  have v3 := (v1.mono e2).mono e3
  revert q3
  unfold vSl
  cases hx : x.dat with
  | none => exact fun q => q.elim
  | some d =>
    cases d with
    | list ds =>
      intro q3
      obtain ⟨a, xs, rfl, h1, h2⟩ := v3.lst hx
      exact .inr (.inl ⟨a, xs, rfl, .of h1, fun p hp => q3 F3 γ3 _ (g3.trans (EG.new hp)) (er3.new hp) _ (vr_lst er3 hp (g3.back hp) (cutL_rp h2 l h))⟩)
    | tuple ds =>
      intro q3
      obtain ⟨a, xs, rfl, h1, h2⟩ := v3.tup hx
      refine .inl ⟨a, xs, rfl, h1.t, fun w => q3 F3 γ3 _ g3 er3 _ ?_, fun _ p its hp => q3 F3 γ3 _ (g3.trans (EG.new hp)) (er3.new hp) _ (vr_tup er3 hp (cutL_rp h2 l h))⟩
      rw [cut_whole (by rw [h2.length]; exact w)]
      show Rp _ _ _ (.tuple ds) _
      simp only [Rp]
      exact ⟨a, xs, rfl, h1, h2⟩
    | str z =>
      by_cases hf : fit z.length = true
      · simp only [hf, if_true]
        intro q3
        exact .inr (.inr ⟨z, v3.str hx, sz_ok hf, q3 F3 γ3 _ g3 er3 _ (by simp [VR, Rp])⟩)
      · simp only [hf]
        exact fun q => q.elim
    | _ => exact fun q => q.elim

/-! ### isinstance -/
def tyName : PyData → String
  | .none => "NoneType"
  | .bool _ => "bool"
  | .int _ => "int"
  | .str _ => "str"
  | .list _ => "list"
  | .tuple _ => "tuple"
  | .dict _ => "dict"
theorem tyX_rp {d : PyData} {K : PySem.W.Frag} (h : Rp K F H d u) : TyX K H u (.type (tyName d)) := by
  cases d with
  | none => simp only [Rp] at h; subst h; exact .base .non
  | bool b => simp only [Rp] at h; subst h; exact .base (.bl b)
  | int b => simp only [Rp] at h; subst h; exact .base (.int b)
  | str b => simp only [Rp] at h; subst h; exact .base (.str b)
  | list ds =>
    simp only [Rp] at h
    obtain ⟨a, xs, rfl, h1, _⟩ := h
    exact .base (.lst h1.2)
  | tuple ds =>
    simp only [Rp] at h
    obtain ⟨a, xs, rfl, h1, _⟩ := h
    rcases h1 with ⟨o, h1, _⟩ | ⟨o, its, n, hk, hc, _⟩
    · exact .fTuple h1
    · exact .kTuple hk hc
  | dict kvs =>
    simp only [Rp] at h
    obtain ⟨a, es, rfl, _, ⟨ks, h1, _⟩, _⟩ := h
    exact .base (.dK h1)
theorem VR.ty {d : PyData} (h : VR M own H0 F γ H r u) (hd : r.dat = some d) : TyX M.K H u (.type (tyName d)) := by
  cases d with
  | list ds =>
    obtain ⟨a, xs, rfl, h1, _⟩ := h.lst hd
    exact .base (.lst h1)
  | dict kvs =>
    cases r with
    | fr d' => cases hd; exact tyX_rp h
    | ow d' =>
      cases hd
      obtain ⟨p, rfl, _, _, _, _, es, ⟨ks, h1, _⟩, _⟩ := h
      exact .base (.dK h1)
    | bo i d' =>
      cases hd
      obtain ⟨p, rfl, _, _, _, es, ⟨ks, h1, _⟩, _⟩ := h
      exact .base (.dK h1)
    | rf k => cases hd
    | sc ns => cases hd
    | ex p => cases hd
  | _ => exact tyX_rp (h.scal hd (fun _ z => nomatch z) (fun _ z => nomatch z))
/-- isinstance(d, T): T told by its name -/
def isTy (T : String) (d : PyData) : Bool := tyName d == T || (T == "int" && tyName d == "bool")
def vIsa (T : String) (x : Vl) : Option Vl := x.dat.map fun d => .fr (.bool (isTy T d))
def isTys (Ts : List String) (d : PyData) : Bool := Ts.any fun T => isTy T d
def goodTy (T : String) : Bool := (["int", "bool", "str", "tuple", "list", "dict"] : List String).contains T
theorem kit_good {T : String} {K : PySem.W.Frag} (h : goodTy T = true) (d : PyData) : PySem.W.kitOne K (.type (tyName d)) (.type T) = some (isTy T d) := by
  have h' : T = "int" ∨ T = "bool" ∨ T = "str" ∨ T = "tuple" ∨ T = "list" ∨ T = "dict" := by simpa [goodTy] using h
  have go : ∀ t : String, t = "NoneType" ∨ t = "bool" ∨ t = "int" ∨ t = "str" ∨ t = "list" ∨ t = "tuple" ∨ t = "dict" → PySem.W.kitOne K (.type t) (.type T) = some (t == T || (T == "int" && t == "bool")) := by
    intro t ht
    refine kit_ty ?_
    rcases h' with rfl | rfl | rfl | rfl | rfl | rfl <;> rcases ht with rfl | rfl | rfl | rfl | rfl | rfl | rfl <;> decide +kernel
  refine go (tyName d) ?_
  cases d <;> simp [tyName]
theorem s_isa (C : Ct P W N Nv G ls k X) {T : String} {x t : Str} {p p2 : Pos} (i j : Nat) (hm : X.mg x = none) (hm2 : X.mg t = none) (ha : ES X W a ma) (hT : goodTy T = true := by decide +kernel) (hg : G[i]? = some x := by rfl) (hg2 : G[j]? = some t := by rfl)
    (hx : x = "isinstance" := by rfl) (hv2 : bootBuiltins t = some (.type T) := by decide +kernel) (hn2 : t ≠ "__name__" := by decide) (hdb2 : (t == ("__debug__" : Str)) = false := by decide)
    (he : starEach [a, .Name t p2] X.env = (false, eval a X.env) :: starEach [.Name t p2] X.env := by rfl) (hpl : (backTo pos (starEach [.Name t p2] X.env)).any (·.1) = false := by rfl) : ES X W (.Call (.Name x p) [a, .Name t p2] [] pos) (m1 (vIsa T) ma) := by
  subst hx
  refine pe_mono (pe_callB call_isi (C.glo i _ hg) hm (by decide +kernel) (pa_cons ha (pa_cons (pe_bltn (v := .ty T) (C.glo j _ hg2) hm2 hv2 rfl hn2 hdb2) pa_nil) he) (by decide) (by decide) he hpl) fun σ H Q h => ?_
  refine tE_m1 (R := fun u H Q => rIsi X.K [u, .ty T] H Q) (fun H0 own F γ H env σ' S x u z Q h0 er vr ho q => ?_) h
  obtain ⟨d, hd, rfl⟩ := Option.map_eq_some_iff.mp (show x.dat.map _ = some z from ho)
  exact ⟨u, .ty T, _, _, _, rfl, .ty T, vr.ty hd, kit_good hT d, q F H _ .refl er (by simp [VR, Rp])⟩
theorem s_isa2 (C : Ct P W N Nv G ls k X) {T T2 : String} {x t t2 : Str} {p p2 p3 p4 : Pos} {kk : Nat} (i j l : Nat) (hm : X.mg x = none) (hm2 : X.mg t = none) (hm3 : X.mg t2 = none) (ha : ES X W a ma) (hT : goodTy T = true := by decide +kernel) (hT2 : goodTy T2 = true := by decide +kernel) (hg : G[i]? = some x := by rfl) (hg2 : G[j]? = some t := by rfl) (hg3 : G[l]? = some t2 := by rfl)
    (hx : x = "isinstance" := by rfl) (hv2 : bootBuiltins t = some (.type T) := by decide +kernel) (hn2 : t ≠ "__name__" := by decide) (hdb2 : (t == ("__debug__" : Str)) = false := by decide) (hv3 : bootBuiltins t2 = some (.type T2) := by decide +kernel) (hn3 : t2 ≠ "__name__" := by decide) (hdb3 : (t2 == ("__debug__" : Str)) = false := by decide)
    (he : starEach [a, .Tuple [.Name t p2, .Name t2 p3] kk p4] X.env = (false, eval a X.env) :: starEach [.Tuple [.Name t p2, .Name t2 p3] kk p4] X.env := by rfl) (hpl : (backTo pos (starEach [.Tuple [.Name t p2, .Name t2 p3] kk p4] X.env)).any (·.1) = false := by rfl) :
    ES X W (.Call (.Name x p) [a, .Tuple [.Name t p2, .Name t2 p3] kk p4] [] pos) (m1 (fun x => x.dat.map fun d => .fr (.bool (isTy T d || isTy T2 d))) ma) := by
  subst hx
  refine pe_mono (pe_callB call_isiT (C.glo i _ hg) hm (by decide +kernel) (pa_cons ha (pa_cons (pe_tup (pa_cons (pe_bltn (v := .ty T) (C.glo j _ hg2) hm2 hv2 rfl hn2 hdb2) (pa_cons (pe_bltn (v := .ty T2) (C.glo l _ hg3) hm3 hv3 rfl hn3 hdb3) pa_nil))) pa_nil) he) (by decide) (by decide) he hpl) fun σ H Q h => ?_
  refine tE_m1 (R := fun u H Q => (2 : Nat) ≤ sizeLine ∧ ∀ p, H p = none → rIsiT X.K [u, .ref p] (upd H p (.tup [.ty T, .ty T2])) Q) (fun H0 own F γ H env σ' S x u z Q h0 er vr ho q => ⟨by decide, fun p hp => ?_⟩) h
  obtain ⟨d, hd, rfl⟩ := Option.map_eq_some_iff.mp (show x.dat.map _ = some z from ho)
  refine ⟨u, p, [.ty T, .ty T2], _, [.type T, .type T2], (isTy T d || isTy T2 d), rfl, upd_same, .cons (.ty T) (.cons (.ty T2) .nil), (vr.mono (EG.new hp)).ty hd, ?_, q F _ _ (EG.new hp) (er.new hp) (by simp [VR, Rp])⟩
  cases h1 : isTy T d with
  | true => exact kitAny_cons (b := true) (by rw [kit_good hT d, h1]) (fun z => nomatch z) (fun _ => rfl)
  | false =>
    refine kitAny_cons (b := false) (by rw [kit_good hT d, h1]) (fun _ => ?_) (fun z => nomatch z)
    cases h2 : isTy T2 d with
    | true => exact kitAny_cons (b := true) (by rw [kit_good hT2 d, h2]) (fun z => nomatch z) (fun _ => rfl)
    | false => exact kitAny_cons (b := false) (by rw [kit_good hT2 d, h2]) (fun _ => kitAny_nil) (fun z => nomatch z)
end
end TL
end

section
set_option Elab.async false
set_option linter.all false
set_option maxRecDepth 100000
set_option maxHeartbeats 1000000
namespace TL
open PySem PySem.Spec PyProof.Rows L2 PySem.W
mutual
/-- no list within, dicts hold plain data alone -/
def noList : PyData → Bool
  | .none | .bool _ | .int _ | .str _ => true
  | .list _ => false
  | .tuple ds => noListAll ds
  | .dict kvs => noListKv kvs
def noListAll : List PyData → Bool
  | [] => true
  | d :: ds => noList d && noListAll ds
def noListKv : List (PyData × PyData) → Bool
  | [] => true
  | (k, v) :: r => noList k && noList v && noListKv r
end
section
variable {X : Cx} {W : WX} {N Nv G : List Str} {ls : List Nat} {P : Pg} {k : Nat} {M : Md} {own : Addr → Option Nat} {F F' F1 F2 : Addr → Prop} {γ γ' γ1 γ2 : List Addr} {H H' H0 H1 H2 : Hp} {env : En} {σ : L2.St} {S S' S1 : Sto} {r : Vl} {u : V} {Q : VK}
variable {a b c e : Expr} {es : List Expr} {ma mb mc : ME} {mt mu mv : MT} {mr : MA} {pos : Pos} {pins : List (Addr × Obj)} {s : Shared}

/-! ### calls of one int, a text -/
theorem calld1 {f : Value} {op : Vl → Option Vl} (h : ∀ (pins : List (Addr × Obj)) (s : Shared) (σ : L2.St) (H H0 : Hp) (own : Addr → Option Nat) (F : Addr → Prop) (γ : List Addr) (env : En) (σ' : L2.St) (S : Sto) (x z : Vl) (u : V) (uu : List Value) (Q : VK), Inv X pins σ H s → Vals [u] uu → (∀ a, H a = none → H0 a = none) → ER (md X) own F γ H env σ' S → VR (md X) own H0 F γ H x u → op x = some z →
    (∀ F' H' w, EG F γ H F' γ H' → ER (md X) own F' γ H' env σ' S → VR (md X) own H0 F' γ H' z w → Q w H') → wpAny (model X.prog X.w) X.A (call f uu) (EP X pins σ Q) X.xe s) : CallD X f (on1 op) := by
  intro pins s σ H H0 own F γ env σ' S xs z us uu Q I r h0 er p ho q
  obtain ⟨x, rfl, ho⟩ := on1_some ho
  obtain ⟨u, rfl, v⟩ := paired1 p
  exact h pins s σ H H0 own F γ env σ' S x z u uu Q I r h0 er v ho q
def vAbs (x : Vl) : Option Vl := match x.dat with
  | some (.int i) => some (.fr (.int (if i < 0 then -i else i)))
  | _ => none
theorem d_abs : CallD X (.builtin "abs") (on1 vAbs) := calld1 fun pins s σ H H0 own F γ env σ' S x z u uu Q I r h0 er v ho q => by
  unfold vAbs at ho
  split at ho
  · rename_i i hx
    cases ho
    obtain rfl := v.int hx
    exact call_abs pins s σ H _ uu Q I r ⟨i, rfl, q F H _ .refl er (by simp [VR, Rp])⟩
  · cases ho
def vInt (x : Vl) : Option Vl := match x.dat with
  | some (.int i) => some (.fr (.int i))
  | some (.bool b) => some (.fr (.int (if b then 1 else 0)))
  | some (.str z) => if z.length ≤ 640 then (PySem.intText? z).map fun n => .fr (.int n) else none
  | _ => none
theorem d_int : CallD X (.type "int") (on1 vInt) := calld1 fun pins s σ H H0 own F γ env σ' S x z u uu Q I r h0 er v ho q => by
  unfold vInt at ho
  split at ho
  · rename_i i hx
    cases ho
    obtain rfl := v.int hx
    exact call_int1 pins s σ H _ uu Q I r (.inl ⟨i, rfl, q F H _ .refl er (by simp [VR, Rp])⟩)
  · rename_i i hx
    cases ho
    obtain rfl := v.bl hx
    exact call_int1 pins s σ H _ uu Q I r (.inr ⟨i, rfl, q F H _ .refl er (by simp [VR, Rp])⟩)
  · rename_i i hx
    split at ho
    · rename_i hl
      obtain ⟨n, hn, rfl⟩ := Option.map_eq_some_iff.mp ho
      obtain rfl := v.str hx
      exact call_int_str pins s σ H _ uu Q I r ⟨i, n, rfl, hn, hl, q F H _ .refl er (by simp [VR, Rp])⟩
    · cases ho
  · cases ho
def vStr (x : Vl) : Option Vl := match x.dat with
  | some (.int i) => if i.natAbs.log2 < 1920 then some (.fr (.str (toString i))) else none
  | _ => none
theorem d_str : CallD X (.type "str") (on1 vStr) := calld1 fun pins s σ H H0 own F γ env σ' S x z u uu Q I r h0 er v ho q => by
  unfold vStr at ho
  split at ho
  · rename_i i hx
    split at ho
    · rename_i hl
      cases ho
      obtain rfl := v.int hx
      exact call_str_int pins s σ H _ uu Q I r ⟨i, rfl, hl, q F H _ .refl er (by simp [VR, Rp])⟩
    · cases ho
  · cases ho
theorem rp_ints {K : PySem.W.Frag} : ∀ ns : List Int, RpAll K F H (ns.map PyData.int) (ns.map V.int)
  | [] => .nil
  | n :: ns => .cons (by simp [Rp]) (rp_ints ns)
def vTupOf : Vl → Option Vl
  | .sc ns => some (.fr (.tuple (ns.map .int)))
  | x => match x.dat with
    | some (.list ds) => some (.fr (.tuple ds))
    | some (.tuple ds) => some (.fr (.tuple ds))
    | _ => none
theorem d_tupOf : CallD X (.type "tuple") (on1 vTupOf) := calld1 fun pins s σ H H0 own F γ env σ' S x z u uu Q I r h0 er v ho q => by
  have main : ∀ o, x.dat = some o → (match (some o : Option PyData) with
    | some (.list ds) => some (Vl.fr (.tuple ds))
    | some (.tuple ds) => some (.fr (.tuple ds))
    | _ => none) = some z → wpAny (model X.prog X.w) X.A (call (.type "tuple") uu) (EP X pins σ Q) X.xe s := fun o hx ho => by
    cases o with
    | list ds =>
      cases ho
      obtain ⟨a, xs, rfl, h1, h2⟩ := v.lst hx
      exact call_tuple1 pins s σ H _ uu Q I r ⟨a, xs, rfl, .inl ⟨.of h1, fun p its hp => q F _ _ (EG.new hp) (er.new hp) (vr_tup er hp h2)⟩⟩
    | tuple ds =>
      cases ho
      obtain ⟨a, xs, rfl, h1, h2⟩ := v.tup hx
      refine call_tuple1 pins s σ H _ uu Q I r ⟨a, xs, rfl, .inr ⟨h1.t, q F H _ .refl er ?_⟩⟩
      show Rp _ _ _ (.tuple ds) _
      simp only [Rp]
      exact ⟨a, xs, rfl, h1, h2⟩
    | _ => cases ho
  cases x with
  | sc ns =>
    cases ho
    obtain ⟨p, rfl, h⟩ := v.sc
    exact call_tuple1 pins s σ H _ uu Q I r ⟨p, _, rfl, .inl ⟨h, fun p its hp => q F _ _ (EG.new hp) (er.new hp) (vr_tup er hp (rp_ints ns))⟩⟩
  | fr d => exact main d rfl ho
  | ow d => exact main d rfl ho
  | bo i d => exact main d rfl ho
  | rf k => cases ho
  | ex p => cases ho
def vLstOf : Vl → Option Vl
  | .sc ns => some (.ow (.list (ns.map .int)))
  | x => match x.dat with
    | some (.list ds) => some (.ow (.list ds))
    | some (.tuple ds) => some (.ow (.list ds))
    | _ => none
theorem d_lstOf : CallD X (.type "list") (on1 vLstOf) := calld1 fun pins s σ H H0 own F γ env σ' S x z u uu Q I r h0 er v ho q => by
  have main : ∀ o, x.dat = some o → (match (some o : Option PyData) with
    | some (.list ds) => some (Vl.ow (.list ds))
    | some (.tuple ds) => some (.ow (.list ds))
    | _ => none) = some z → wpAny (model X.prog X.w) X.A (call (.type "list") uu) (EP X pins σ Q) X.xe s := fun o hx ho => by
    cases o with
    | list ds =>
      cases ho
      obtain ⟨a, xs, rfl, h1, h2⟩ := v.lst hx
      exact call_list_of pins s σ H _ uu Q I r ⟨a, xs, rfl, .inl (.of h1), fun p hp => q F _ _ (EG.new hp) (er.new hp) (vr_lst er hp (h0 p hp) h2)⟩
    | tuple ds =>
      cases ho
      obtain ⟨a, xs, rfl, h1, h2⟩ := v.tup hx
      exact call_list_of pins s σ H _ uu Q I r ⟨a, xs, rfl, .inr h1.t, fun p hp => q F _ _ (EG.new hp) (er.new hp) (vr_lst er hp (h0 p hp) h2)⟩
    | _ => cases ho
  cases x with
  | sc ns =>
    cases ho
    obtain ⟨p, rfl, h⟩ := v.sc
    exact call_list_of pins s σ H _ uu Q I r ⟨p, _, rfl, .inl h, fun p hp => q F _ _ (EG.new hp) (er.new hp) (vr_lst er hp (h0 p hp) (rp_ints ns))⟩
  | fr d => exact main d rfl ho
  | ow d => exact main d rfl ho
  | bo i d => exact main d rfl ho
  | rf k => cases ho
  | ex p => cases ho

/-! ### sorted -/
def alikeL (ds : List PyData) : Bool := ds.all fun d => ds.all fun e => alike d e
def sortableL (ds : List PyData) : Bool := (ds.all fun d => match d with | .tuple (_ :: _) => true | _ => false) || ds.all fun d => match d with | .none => false | .tuple _ => false | _ => true
def okSort (ds : List PyData) : Bool := PyData.plainAll ds && alikeL ds && sortableL ds && decide (PyData.depthAll ds ≤ 60)
def sortD (ds : List PyData) : List PyData := ds.mergeSort (dataLe false id)
def vSorted (x : Vl) : Option Vl := match x.dat with
  | some (.list ds) => if okSort ds then some (.ow (.list (sortD ds))) else none
  | _ => none
theorem each_of_rp {K : PySem.W.Frag} : ∀ {ds : List PyData} {vs : List V} {us : List Value}, RpAll K F H ds vs → Vals vs us → EachIs (fun v d => ∃ w, RelV w v ∧ Rp K F H d w) us ds
  | [], vs, us, h, r => by
    simp only [RpAll] at h; subst h; cases r; exact .nil
  | d :: ds, vs, us, h, r => by
    simp only [RpAll] at h
    obtain ⟨v, t, rfl, h1, h2⟩ := h
    cases r with
    | cons r1 r2 => exact .cons ⟨v, r1, h1⟩ (each_of_rp h2 r2)
theorem rp_of_each {K : PySem.W.Frag} : ∀ {ds : List PyData} {us : List Value}, EachIs (fun v d => ∃ w, RelV w v ∧ Rp K F H d w) us ds → ∃ vs, RpAll K F H ds vs ∧ Vals vs us
  | _, _, .nil => ⟨[], .nil, .nil⟩
  | _, _, .cons ⟨w, r, h⟩ t => by
    obtain ⟨vs, h1, h2⟩ := rp_of_each t
    exact ⟨w :: vs, .cons h h1, .cons r h2⟩
theorem each_reads {K : PySem.W.Frag} {h : Heap} : ∀ {ds : List PyData} {us : List Value} {as : List Addr}, ReadsAll h us ds as → EachIs (fun v d => ∃ as, Reads h v (id d) as) us ds
  | _, _, _, .nil => .nil
  | _, _, _, .cons r t => .cons ⟨_, r⟩ (each_reads (K := K) t)
theorem depth_memL {d : PyData} : ∀ {ds : List PyData}, d ∈ ds → d.depth ≤ PyData.depthAll ds
  | e :: ds, h => by
    simp only [PyData.depthAll]
    rcases List.mem_cons.mp h with rfl | h
    · omega
    · have := depth_memL h; omega
theorem d_sorted (hu : L2H.RoomH k X.A) : CallD X (.builtin "sorted") (on1 vSorted) := calld1 fun pins s σ H H0 own F γ env σ' S x z u uu Q I r h0 er v ho q => by
  unfold vSorted at ho
  split at ho
  · rename_i ds hx
    split at ho
    · rename_i hc
      cases ho
      simp only [okSort, Bool.and_eq_true, decide_eq_true_eq] at hc
      obtain ⟨⟨⟨hp, ha⟩, hs⟩, hd⟩ := hc
      obtain ⟨a, xs, rfl, h1, h2⟩ := v.lst hx
      obtain ⟨its, rv, hl, hz⟩ := I.list (.of h1)
      rw [Vals.ref1 r]
      obtain ⟨as, ra⟩ := Rp.readsAll I ds xs its hp h2 rv
      have hal : AllAlike (ds.map id) := by
        rw [List.map_id]
        intro d hd e he
        exact List.all_eq_true.mp (List.all_eq_true.mp ha d hd) e he
      have hso : Sortable (ds.map id) := by
        rw [List.map_id]
        rcases Bool.or_eq_true_iff.mp hs with hs | hs
        · refine .inl fun d hd => ?_
          have := List.all_eq_true.mp hs d hd
          revert this
          split
          · exact fun _ => ⟨_, _, rfl⟩
          · exact fun z => nomatch z
        · refine .inr fun d hd => ?_
          have := List.all_eq_true.mp hs d hd
          revert this
          split
          · exact fun z => nomatch z
          · exact fun z => nomatch z
          · rename_i n1 n2
            exact fun _ => ⟨n1, n2⟩
      have hun := hu.un
      refine PySem.W.sorted_data (enc := id) (R := fun v d => ∃ w, RelV w v ∧ Rp X.K F H d w) hl.isList (each_of_rp h2 rv) (each_reads (K := X.K) ra) hal hso (by rw [h2.length]; exact hz) (fun d hd => ?_) fun out ho2 eo => ?_
      · have := depth_memL hd
        show X.A.units + 2 + d.depth < cLine
        omega
      · obtain ⟨vs, k1, k2⟩ := rp_of_each eo
        obtain ⟨ep, he'⟩ := PyProof.Rows.sortedAll_at s.heap its out.toArray
        have hlen : vs.length ≤ sizeLine := by rw [k2.length, ho2, h2.length]; exact hz
        have hn : H (s.heap.objs.size + 1) = none := I.hok.fresh (Nat.le_succ _)
        exact ⟨.ref _, upd H (s.heap.objs.size + 1) (.lst vs), I.laid (t' := s.toks) (fun _ _ => PyProof.Rows.sortedAll_old) (Nat.le_succ _) ⟨hlen, out, ep, k2, he'⟩, rfl, q F _ _ (EG.new hn) (er.new hn) (vr_lst er hn (h0 _ hn) k1)⟩
    · cases ho
  · cases ho

/-! ### repr -/
theorem reads_kv {F : Addr → Prop} {h : Heap} {prog : Program} {w : World} (hr : ∀ (d : PyData) (v : V) (u : Value), noList d = true → Rp X.K F H d v → RelV v u → ∃ as, Reads h u d as ∧ sysModules ∉ as) :
    ∀ {kvs : List (PyData × PyData)} {ks : List (Key × V)} {vs : List (Key × Value)} {es : List DictEntry}, noListKv kvs = true → RpKv X.K F H kvs (ks.map fun p => (kV p.1, p.2)) → KV ks vs → Pairs (mixKind prog w) es vs →
      (∃ as, ReadsAll h (es.map (·.key)) (kvs.map (·.1)) as ∧ sysModules ∉ as) ∧ ∃ bs, ReadsAll h (es.map (·.val)) (kvs.map (·.2)) bs ∧ sysModules ∉ bs
  | [], ks, vs, es, _, h1, h2, h3 => by
    have : ks = [] := by
      cases ks with
      | nil => rfl
      | cons _ _ => simp [RpKv] at h1
    subst this
    cases h2
    cases h3
    exact ⟨⟨[], .nil, by simp⟩, [], .nil, by simp⟩
  | (kd, vd) :: kvs, ks, vs, es, hn, h1, h2, h3 => by
    cases ks with
    | nil => simp [RpKv] at h1
    | cons p ks =>
      simp only [List.map_cons, RpKv] at h1
      obtain ⟨a, b, t, e, q1, q2, q3⟩ := h1
      injection e with e1 e2
      injection e1 with e3 e4
      subst e2 e3 e4
      cases h2 with
      | cons kv h2 =>
        cases h3 with
        | cons i1 i2 h3 =>
          rename_i p2 vs en es
          simp only [noListKv, Bool.and_eq_true] at hn
          obtain ⟨⟨as, ra, na⟩, bs, rb, nb⟩ := reads_kv hr hn.2 q3 h2 h3
          obtain ⟨cs, rc, nc⟩ := hr kd _ en.key hn.1.1 q1 (by rw [kv.1]; exact relV_key i1)
          obtain ⟨ds, rd, nd⟩ := hr vd _ en.val hn.1.2 q2 (by rw [i2]; exact kv.2)
          exact ⟨⟨cs ++ as, .cons rc ra, by simp [nc, na]⟩, ds ++ bs, .cons rd rb, by simp [nd, nb]⟩
mutual
theorem Rp.readsD {F : Addr → Prop} (I : Inv X pins σ H s) : ∀ (d : PyData) (v : V) (u : Value), noList d = true → Rp X.K F H d v → RelV v u → ∃ as, Reads s.heap u d as ∧ sysModules ∉ as
  | .none, v, u, _, h, r => by
    simp only [Rp] at h; subst h; cases r
    exact ⟨_, Reads.none, by simp⟩
  | .bool b, v, u, _, h, r => by
    simp only [Rp] at h; subst h; cases r
    exact ⟨_, Reads.bool b, by simp⟩
  | .int i, v, u, _, h, r => by
    simp only [Rp] at h; subst h; obtain ⟨t, rfl⟩ := r
    exact ⟨_, Reads.int i t, by simp⟩
  | .str x, v, u, _, h, r => by
    simp only [Rp] at h; subst h; obtain ⟨t, rfl⟩ := r
    exact ⟨_, Reads.str x t, by simp⟩
  | .list ds, v, u, p, h, r => by simp [noList] at p
  | .tuple ds, v, u, p, h, r => by
    simp only [Rp] at h
    obtain ⟨a, xs, rfl, h1, h2⟩ := h
    cases r
    obtain ⟨its, rv, ⟨o, ho, hc, n, hd⟩, _⟩ := I.tuple h1.t
    obtain ⟨as, hr, hn⟩ := Rp.readsDAll I ds xs its (by simpa [noList] using p) h2 rv
    exact ⟨_, Reads.tuple ho hc hd hr, hn⟩
  | .dict kvs, v, u, p, h, r => by
    simp only [Rp] at h
    obtain ⟨a, es, rfl, f, ⟨ks, h1, rfl⟩, h2⟩ := h
    cases r
    obtain ⟨z, hs, vs, rk, o, ens, ep, ho, hx, hdt, hk, hp, hnd⟩ := I.hok a _ h1
    obtain ⟨⟨as, ra, na⟩, bs, rb, nb⟩ := reads_kvD I kvs ks vs ens.toList (by simpa [noList] using p) h2 rk hp
    exact ⟨_, Reads.dict ho hx.1 hdt ra rb, by
      have : a ≠ sysModules := beq_eq_false_iff_ne.mp hs
      simp [na, nb, Ne.symm this]⟩
theorem Rp.readsDAll {F : Addr → Prop} (I : Inv X pins σ H s) : ∀ (ds : List PyData) (vs : List V) (us : List Value), noListAll ds = true → RpAll X.K F H ds vs → Vals vs us → ∃ as, ReadsAll s.heap us ds as ∧ sysModules ∉ as
  | [], vs, us, _, h, r => by
    simp only [RpAll] at h; subst h; cases r
    exact ⟨_, ReadsAll.nil, by simp⟩
  | d :: ds, vs, us, p, h, r => by
    simp only [RpAll] at h
    obtain ⟨v, t, rfl, h1, h2⟩ := h
    cases r with
    | cons r1 r2 =>
      simp only [noListAll, Bool.and_eq_true] at p
      obtain ⟨as, q1, n1⟩ := Rp.readsD I d v _ p.1 h1 r1
      obtain ⟨bs, q2, n2⟩ := Rp.readsDAll I ds t _ p.2 h2 r2
      exact ⟨_, ReadsAll.cons q1 q2, by simp [n1, n2]⟩
theorem reads_kvD {F : Addr → Prop} (I : Inv X pins σ H s) : ∀ (kvs : List (PyData × PyData)) (ks : List (Key × V)) (vs : List (Key × Value)) (es : List DictEntry), noListKv kvs = true → RpKv X.K F H kvs (ks.map fun p => (kV p.1, p.2)) → KV ks vs → Pairs (mixKind X.prog X.w) es vs →
      (∃ as, ReadsAll s.heap (es.map (·.key)) (kvs.map (·.1)) as ∧ sysModules ∉ as) ∧ ∃ bs, ReadsAll s.heap (es.map (·.val)) (kvs.map (·.2)) bs ∧ sysModules ∉ bs
  | [], ks, vs, es, _, h1, h2, h3 => by
    have : ks = [] := by
      cases ks with
      | nil => rfl
      | cons _ _ => simp [RpKv] at h1
    subst this
    cases h2
    cases h3
    exact ⟨⟨[], .nil, by simp⟩, [], .nil, by simp⟩
  | (kd, vd) :: kvs, ks, vs, es, hn, h1, h2, h3 => by
    cases ks with
    | nil => simp [RpKv] at h1
    | cons p ks =>
      simp only [List.map_cons, RpKv] at h1
      obtain ⟨a, b, t, e, q1, q2, q3⟩ := h1
      injection e with e1 e2
      injection e1 with e3 e4
      subst e2 e3 e4
      cases h2 with
      | cons kv h2 =>
        cases h3 with
        | cons i1 i2 h3 =>
          rename_i p2 vs en es
          simp only [noListKv, Bool.and_eq_true] at hn
          obtain ⟨⟨as, ra, na⟩, bs, rb, nb⟩ := reads_kvD I kvs ks _ _ hn.2 q3 h2 h3
          obtain ⟨cs, rc, nc⟩ := Rp.readsD I kd _ en.key hn.1.1 q1 (by rw [kv.1]; exact relV_key i1)
          obtain ⟨ds, rd, nd⟩ := Rp.readsD I vd _ en.val hn.1.2 q2 (by rw [i2]; exact kv.2)
          exact ⟨⟨cs ++ as, .cons rc ra, by simp [nc, na]⟩, ds ++ bs, .cons rd rb, by simp [nd, nb]⟩
end
theorem plain_noDict : ∀ d : PyData, d.plain = true → d.hasDict = false := by
  intro d
  exact plain_noDict1 d
where
  plain_noDict1 : ∀ d : PyData, d.plain = true → d.hasDict = false
    | .none, _ => rfl
    | .bool _, _ => rfl
    | .int _, _ => rfl
    | .str _, _ => rfl
    | .list xs, h => by
      simp only [PyData.hasDict]
      exact plain_noDictA xs (by simpa [PyData.plain] using h)
    | .tuple xs, h => by
      simp only [PyData.hasDict]
      exact plain_noDictA xs (by simpa [PyData.plain] using h)
    | .dict _, h => by simp [PyData.plain] at h
  plain_noDictA : ∀ ds : List PyData, PyData.plainAll ds = true → PyData.hasDictAll ds = false
    | [], _ => rfl
    | d :: ds, h => by
      simp only [PyData.plainAll, Bool.and_eq_true] at h
      simp only [PyData.hasDictAll, plain_noDict1 d h.1, plain_noDictA ds h.2, Bool.or_self]
def okRepr (d : PyData) : Bool := (d.plain || noList d) && d.showable && decide (d.depth ≤ 60) && decide (d.shown.length ≤ 16777216)
def vRepr (x : Vl) : Option Vl := match x.dat with
  | some d => if okRepr d then some (.fr (.str d.shown)) else none
  | none => none
theorem call_repr_reads {E : Value → Shared → Prop} {A : Around} {prog : Program} {w : World} {d : PyData} {v : Value} {as : List Addr} {Q : Value → Shared → Prop} (r : Reads s.heap v d as) (hs : d.showable = true) (hsm : d.hasDict = true → sysModules ∉ as) (hg : A.guards = some []) (hu : A.units + (d.depth + 1) < cLine) (hz : d.shown.length ≤ sizeLine)
    (hQ : ∀ h' u tk, (∀ b o, s.heap.get? b = some o → h'.get? b = some o) → Q (.str d.shown u) { s with heap := h', toks := tk }) : wpAny (model prog w) A (call (.builtin "repr") [v]) Q E s := by
  cases d with
  | none => cases r; exact PySem.P.repr_of_none (hQ s.heap _ _ fun _ _ h => h)
  | bool b => cases r; exact PySem.P.repr_of_bool (hQ s.heap _ _ fun _ _ h => h)
  | int i => cases r; exact PySem.P.repr_of_int (of_decide_eq_true (by simpa [PyData.showable] using hs)) (hQ s.heap _ _ fun _ _ h => h)
  | str x => cases r; exact PySem.P.repr_of_str (hQ s.heap _ _ fun _ _ h => h) (by simpa [PyData.shown] using hz)
  | list ds => obtain ⟨a, rfl⟩ : ∃ a, v = .ref a := by cases r; exact ⟨_, rfl⟩
               exact repr_of_reads' r hs hsm hg hu (fun _ _ h => h) hQ hz
  | tuple ds => obtain ⟨a, rfl⟩ : ∃ a, v = .ref a := by cases r; exact ⟨_, rfl⟩
                exact repr_of_reads' r hs hsm hg hu (fun _ _ h => h) hQ hz
  | dict ds => obtain ⟨a, rfl⟩ : ∃ a, v = .ref a := by cases r; exact ⟨_, rfl⟩
               exact repr_of_reads' r hs hsm hg hu (fun _ _ h => h) hQ hz
theorem VR.readsD {d : PyData} {v : V} {u : Value} (I : Inv X pins σ H s) (h : VR (md X) own H0 F γ H r v) (hd : r.dat = some d) (p : (d.plain || noList d) = true) (rv : RelV v u) : ∃ as, Reads s.heap u d as ∧ (d.hasDict = true → sysModules ∉ as) := by
  by_cases hp : d.plain = true
  · obtain ⟨as, q⟩ := h.reads I hd hp rv
    exact ⟨as, q, fun z => by rw [plain_noDict d hp] at z; cases z⟩
  · have hn : noList d = true := by
      rcases Bool.or_eq_true_iff.mp p with z | z
      · exact absurd z hp
      · exact z
    have : ∃ F', Rp X.K F' H d v := by
      cases r with
      | fr d' => cases hd; exact ⟨F, h⟩
      | ow d' =>
        cases hd
        obtain ⟨q, rfl, _, _, _, _, h5⟩ := h
        exact ⟨fun a => F a ∨ a = q, h5.frz Mo.addF (.inr rfl)⟩
      | bo i d' =>
        cases hd
        obtain ⟨q, rfl, _, _, _, h5⟩ := h
        exact ⟨fun a => F a ∨ a = q, h5.frz Mo.addF (.inr rfl)⟩
      | rf k => cases hd
      | sc ns => cases hd
      | ex p => cases hd
    obtain ⟨F', rp⟩ := this
    obtain ⟨as, q, n⟩ := Rp.readsD I d v u hn rp rv
    exact ⟨as, q, fun _ => n⟩
theorem d_repr (hu : L2H.RoomH k X.A) (hg : X.A.guards = some []) : CallD X (.builtin "repr") (on1 vRepr) := calld1 fun pins s σ H H0 own F γ env σ' S x z u uu Q I r h0 er v ho q => by
  unfold vRepr at ho
  split at ho
  · rename_i d hx
    split at ho
    · rename_i hc
      cases ho
      simp only [okRepr, Bool.and_eq_true, decide_eq_true_eq] at hc
      obtain ⟨⟨⟨h1, h2⟩, h3⟩, h4⟩ := hc
      obtain ⟨uv, rfl, ru⟩ := vals1 r
      obtain ⟨as, ra, hn⟩ := v.readsD I hx h1 ru
      have hun := hu.un
      exact call_repr_reads ra h2 hn hg (by omega) (by rw [sizeLine_eq]; exact h4) fun h' t tk kp => ⟨.str d.shown, H, I.kept kp, ⟨t, rfl⟩, q F H _ .refl er (by simp [VR, Rp])⟩
    · cases ho
  · cases ho
end
end TL
end

section
set_option Elab.async false
set_option linter.all false
set_option maxRecDepth 100000
set_option maxHeartbeats 1000000
namespace TL
open PySem PySem.Spec PyProof.Rows L2

/-! ### statements -/
inductive Rs where
  | nx (env : En) (S : Sto)
  | bk (env : En) (S : Sto)
  | ct (env : En) (S : Sto)
  | rt (v : Vl) (S : Sto)
  | exc (e : Xc) (env : En) (S : Sto)
  | stuck
abbrev MS := En → Sto → Rs
def Res.toS {α : Type} (x : Res α) (env : En) (f : α → Sto → Rs) : Rs := match x with
  | .ok a S => f a S
  | .exc e S => .exc e env S
  | .stuck => .stuck
abbrev Md.nx (M : Md) : Md := ⟨M.K, M.mg, none⟩
/-- the heap at the def's entry -/
structure Bs where
  F : Addr → Prop
  g : List Addr
  H : Hp
structure SB (B : Bs) (own : Addr → Option Nat) (F : Addr → Prop) (γ : List Addr) (H : Hp) : Prop where
  eg : EG B.F B.g B.H F γ H
  ow : ∀ a i, own a = some i → B.H a = none
def nob : Addr → Option Nat := fun _ => none
def KN (M : Md) (B : Bs) (Fs : Addr → Prop) (Hs : Hp) (env : En) (S : Sto) (P : L2.St → Hp → Prop) : Prop :=
  ∀ own' F' γ' H' σ', SB B own' F' γ' H' → Mo Fs Hs F' H' → ER M own' F' γ' H' env σ' S → P σ' H'
def KS (M : Md) (W : WX) (B : Bs) (Fs : Addr → Prop) (Hs : Hp) (r : Rs) (D : Ends) : Prop := match r with
  | .nx env S => KN M B Fs Hs env S D.nx
  | .bk env S => KN M B Fs Hs env S D.bk
  | .ct env S => KN M B Fs Hs env S D.ct
  | .rt v S => ∀ F' γ' H', EG B.F B.g B.H F' γ' H' → CR2 M F' γ' H' S → ∀ u, VR M.nx nob B.H F' γ' H' v u → D.rt u H'
  | .exc e env S => ∀ own' F' γ' H' σ' cls d, SB B own' F' γ' H' → Mo Fs Hs F' H' → ER M own' F' γ' H' env σ' S → XR M F' H' e cls d → W cls d σ' H'
  | .stuck => False
def tS (M : Md) (W : WX) (B : Bs) (m : MS) : TS := fun D σ H => ∃ own F γ env S, SB B own F γ H ∧ ER M own F γ H env σ S ∧ KS M W B F H (m env S) D
def SS (X : Cx) (W : WX) (B : Bs) (st : Stmt) (m : MS) : Prop := PS X st (tS (md X) W B m)
def SSs (X : Cx) (W : WX) (B : Bs) (st : List Stmt) (m : MS) : Prop := PSs X st (tS (md X) W B m)

section
variable {X : Cx} {W : WX} {B : Bs} {N Nv G : List Str} {ls : List Nat} {P : Pg} {k : Nat} {M : Md} {own own' : Addr → Option Nat} {F F' F1 F2 Fs Fs' : Addr → Prop} {γ γ' γ1 γ2 : List Addr} {H H' H0 H1 H2 Hs Hs' : Hp} {env env' : En} {σ σ' : L2.St} {S S' S1 : Sto} {r : Vl} {u : V} {Q : VK} {D : Ends}
variable {a b c e : Expr} {es : List Expr} {ma mb mc : ME} {mt mu : MT} {pos : Pos} {st : Stmt} {sts : List Stmt} {m m' : MS}
theorem Mo.refl : Mo F H F H := ⟨fun _ _ h _ => h, fun _ _ h => h, fun _ _ _ h => h, fun _ h => h⟩
theorem Mo.trans (e : Mo F H F1 H1) (e2 : Mo F1 H1 F2 H2) : Mo F H F2 H2 :=
  ⟨fun a o h f => e2.keepF a o (e.keepF a o h f) (e.mono a f), fun a xs h => e2.tups a xs (e.tups a xs h), fun a o u h => e2.frzs a o u (e.frzs a o u h), fun a h => e2.mono a (e.mono a h)⟩
theorem SB.step (s : SB B own F γ H) (e : EG F γ H F' γ' H') : SB B own F' γ' H' := ⟨s.eg.trans e, s.ow⟩
theorem KN.step {P : L2.St → Hp → Prop} (m : Mo Fs Hs F H) (h : KN M B Fs Hs env S P) : KN M B F H env S P := fun own' F' γ' H' σ' s m' er => h own' F' γ' H' σ' s (m.trans m') er
theorem KS_step {r : Rs} (m : Mo Fs Hs F H) (h : KS M W B Fs Hs r D) : KS M W B F H r D := by
  cases r with
  | nx env S => exact KN.step m h
  | bk env S => exact KN.step m h
  | ct env S => exact KN.step m h
  | rt v S => exact h
  | exc e env S => exact fun own' F' γ' H' σ' cls d s m' er x => h own' F' γ' H' σ' cls d s (m.trans m') er x
  | stuck => exact h
/-- the ends may be weakened -/
theorem KS_mono {D' : Ends} {r : Rs} (h : KS M W B Fs Hs r D) (h1 : ∀ own' F' γ' H' σ' env S, SB B own' F' γ' H' → Mo Fs Hs F' H' → ER M own' F' γ' H' env σ' S → D.nx σ' H' → D'.nx σ' H')
    (h2 : ∀ σ' H', D.bk σ' H' → D'.bk σ' H') (h3 : ∀ σ' H', D.ct σ' H' → D'.ct σ' H') (h4 : ∀ u H', D.rt u H' → D'.rt u H') : KS M W B Fs Hs r D' := by
  cases r with
  | nx env S => exact fun own' F' γ' H' σ' s m er => h1 own' F' γ' H' σ' env S s m er (h own' F' γ' H' σ' s m er)
  | bk env S => exact fun own' F' γ' H' σ' s m er => h2 _ _ (h own' F' γ' H' σ' s m er)
  | ct env S => exact fun own' F' γ' H' σ' s m er => h3 _ _ (h own' F' γ' H' σ' s m er)
  | rt v S => exact fun F' γ' H' e c u v => h4 _ _ (h F' γ' H' e c u v)
  | exc e env S => exact h
  | stuck => exact h
theorem KX_of {e : Xc} (s : SB B own F γ H) (h : KS M W B F H (.exc e env S) D) : KX M W own F γ H env σ e S :=
  fun F' γ' H' cls d e' er x => h own F' γ' H' σ cls d (s.step e') e'.toMo er x
/-- an expression ahead of the rest -/
theorem KE_toS {α : Type} {x : Res α} {f : α → Sto → Rs} {P : α → (Addr → Prop) → List Addr → Hp → Sto → Prop} (s : SB B own F γ H) (h : KS M W B F H (x.toS env f) D)
    (w : ∀ a F' γ' H' S', EG F γ H F' γ' H' → SB B own F' γ' H' → ER M own F' γ' H' env σ S' → KS M W B F' H' (f a S') D → P a F' γ' H' S') : KG M W own F γ H env σ x P := by
  cases x with
  | ok a S' => exact fun F' γ' H' e er => w a F' γ' H' S' e (s.step e) er (KS_step e.toMo h)
  | exc e S' => exact KX_of s h
  | stuck => exact h

/-! ### lists of statements -/
def mPass : MS := fun env S => .nx env S
def mSeq (m m' : MS) : MS := fun env S => match m env S with
  | .nx env' S' => m' env' S'
  | r => r
theorem q_nil : SSs X W B [] mPass := pss_mono pss_nil fun D σ H ⟨own, F, γ, env, S, s, er, q⟩ => q own F γ H σ s .refl er
theorem tS_seq (h : tS M W B (mSeq m m') D σ H) : tSeq (tS M W B m) (tS M W B m') D σ H := by
  obtain ⟨own, F, γ, env, S, s, er, q⟩ := h
  refine ⟨own, F, γ, env, S, s, er, ?_⟩
  unfold mSeq at q
  cases e : m env S with
  | nx env' S' =>
    rw [e] at q
    exact fun own' F' γ' H' σ' s' mo er' => ⟨own', F', γ', env', S', s', er', KS_step mo q⟩
  | bk env' S' => rw [e] at q; exact q
  | ct env' S' => rw [e] at q; exact q
  | rt v S' => rw [e] at q; exact q
  | exc x env' S' => rw [e] at q; exact q
  | stuck => rw [e] at q; exact q
theorem q_cons (h1 : SS X W B st m) (h2 : SSs X W B sts m') : SSs X W B (st :: sts) (mSeq m m') := pss_mono (pss_cons h1 h2) fun D σ H => tS_seq
theorem q_one (h1 : SS X W B st m) : SSs X W B [st] m := pss_one h1
theorem q_bk : SS X W B (.Break pos) (fun env S => .bk env S) := ps_mono ps_break fun D σ H ⟨own, F, γ, env, S, s, er, q⟩ => q own F γ H σ s .refl er
theorem q_ct : SS X W B (.Continue pos) (fun env S => .ct env S) := ps_mono ps_continue fun D σ H ⟨own, F, γ, env, S, s, er, q⟩ => q own F γ H σ s .refl er
theorem q_pass : SS X W B (.Pass pos) mPass := ps_mono ps_pass fun D σ H ⟨own, F, γ, env, S, s, er, q⟩ => q own F γ H σ s .refl er
theorem q_doc {x j pos pos'} : SS X W B (.Expr (.Constant (.str x) j pos) pos') mPass := ps_mono ps_doc fun D σ H ⟨own, F, γ, env, S, s, er, q⟩ => q own F γ H σ s .refl er

/-! ### simple statements -/
def retV (v : Vl) (S : Sto) : Rs := match v with
  | .bo _ d => .rt (.ow d) S
  | .fr d => .rt (.fr d) S
  | .ow d => .rt (.ow d) S
  | .rf k => .rt (.rf k) S
  | .sc ns => .rt (.sc ns) S
  | .ex _ => .stuck
theorem KS_ret (s : SB B own F γ H) (c : CR2 M F γ H S) (g : EG B.F B.g B.H Fs γ' Hs) (v : VR M own Hs F γ H r u) (q : KS M W B F H (retV r S) D) : D.rt u H := by
  cases r with
  | ow d =>
    obtain ⟨p, rfl, h1, h2, h3, h4, h5⟩ := v
    exact q F γ H s.eg c _ ⟨p, rfl, h1, rfl, h3, g.back h4, h5⟩
  | bo i d =>
    obtain ⟨p, rfl, h1, h2, h3, h5⟩ := v
    exact q F γ H s.eg c _ ⟨p, rfl, h1, rfl, h3, s.ow p i h2, h5⟩
  | fr d => exact q F γ H s.eg c _ v
  | rf k => exact q F γ H s.eg c _ v
  | sc ns => exact q F γ H s.eg c _ v
  | ex p => exact q.elim
def mRet (ma : ME) : MS := fun env S => (ma env S).toS env retV
theorem q_ret (ha : ES X W a ma) : SS X W B (.Return (some a) pos) (mRet ma) := ps_mono (ps_ret ha) fun D σ H ⟨own, F, γ, env, S, s, er, q⟩ =>
  ⟨own, F, γ, env, S, er, KE_toS s q fun v F' γ' H' S' e s' er' q' u vr => KS_ret s' er'.c s.eg vr q'⟩
def mRetN : MS := fun env S => .rt (.fr .none) S
theorem q_retN : SS X W B (.Return none pos) mRetN := ps_mono ps_retN fun D σ H ⟨own, F, γ, env, S, s, er, q⟩ => q F γ H s.eg er.c _ (by show Rp _ _ _ _ _; simp [Rp])
def mDrop (ma : ME) : MS := fun env S => (ma env S).toS env fun _ S' => .nx env S'
theorem q_expr (ha : ES X W a ma) (hs : swapsWith a none pos.line X.env = pure false := by rfl) : SS X W B (.Expr a pos) (mDrop ma) := ps_mono (ps_expr ha hs) fun D σ H ⟨own, F, γ, env, S, s, er, q⟩ =>
  ⟨own, F, γ, env, S, er, KE_toS s q fun v F' γ' H' S' e s' er' q' u vr => q' own F' γ' H' σ s' .refl er'⟩
def mIfS (mt : MT) (m m' : MS) : MS := fun env S => (mt env S).toS env fun b S' => if b then m env S' else m' env S'
theorem q_if {t f : List Stmt} (hc : ET X W c mt) (ht : SSs X W B t m) (hf : SSs X W B f m') : SS X W B (.If c t f pos) (mIfS mt m m') := ps_mono (ps_if hc ht hf) fun D σ H ⟨own, F, γ, env, S, s, er, q⟩ =>
  ⟨own, F, γ, env, S, er, KE_toS s q fun v F' γ' H' S' e s' er' q' => by
    cases v with
    | true => exact ⟨own, F', γ', env, S', s', er', q'⟩
    | false => exact ⟨own, F', γ', env, S', s', er', q'⟩⟩

/-! ### slots -/
def Sl.of : Vl → Option Sl
  | .fr d => some (.fr d)
  | .ow d => some (.ow d)
  | .rf k => some (.rf k)
  | .sc ns => some (.sc ns)
  | .ex p => some (.ex p)
  | .bo _ _ => none
def unown (own : Addr → Option Nat) (i : Nat) : Addr → Option Nat := fun a => if own a = some i then none else own a
theorem unown_some {i j : Nat} {a : Addr} (h : unown own i a = some j) : own a = some j ∧ j ≠ i := by
  unfold unown at h
  by_cases e : own a = some i
  · rw [if_pos e] at h; cases h
  · rw [if_neg e] at h
    exact ⟨h, fun z => e (by rw [← z]; exact h)⟩
theorem unown_eq {i j : Nat} {a : Addr} (h : own a = some j) (n : j ≠ i) : unown own i a = some j := by
  unfold unown
  rw [if_neg (by rw [h]; exact fun z => n (Option.some.inj z)), h]
theorem SlR.mono_own {i : Nat} {s : Sl} {o : Option V} (h : SlR M own F γ H i s o) (w : ∀ a, own a = some i → own' a = some i) : SlR M own' F γ H i s o := by
  cases s with
  | ow d =>
    obtain ⟨p, rfl, h1, h2⟩ := h
    exact ⟨p, rfl, w p h1, h2⟩
  | _ => exact h
/-- a value is put into slot i -/
theorem ER.put {i : Nat} {sl : Sl} (er : ER M own F γ H env σ S) (s : SB B own F γ H) (hi : i < env.length) (v : VR M own B.H F γ H r u) (hs : Sl.of r = some sl) :
    ∃ own', SB B own' F γ H ∧ ER M own' F γ H (env.set i sl) (σ.set i (some u)) S := by
  have gen : ∀ own' : Addr → Option Nat, (∀ a j, own' a = some j → B.H a = none) → (∀ a j, own' a = some j → ¬ F a ∧ a ∉ γ ∧ H a ≠ none) → (∀ a j, j ≠ i → own a = some j → own' a = some j) → SlR M own' F γ H i sl (some u) →
      ∃ own', SB B own' F γ H ∧ ER M own' F γ H (env.set i sl) (σ.set i (some u)) S := fun own' h1 h2 h3 h4 => by
    refine ⟨own', ⟨s.eg, h1⟩, ⟨by simp [er.len], fun j s' o q1 q2 => ?_, h2, er.c⟩⟩
    by_cases e : j = i
    · subst e
      rw [List.getElem?_set_self hi] at q1
      rw [List.getElem?_set_self (by rw [← er.len]; exact hi)] at q2
      cases q1; cases q2
      exact h4
    · rw [List.getElem?_set_ne (Ne.symm e)] at q1 q2
      exact (er.slot j s' o q1 q2).mono_own fun a q => h3 a j e q
  have un : (∀ a j, unown own i a = some j → B.H a = none) ∧ (∀ a j, unown own i a = some j → ¬ F a ∧ a ∉ γ ∧ H a ≠ none) ∧ (∀ a j, j ≠ i → own a = some j → unown own i a = some j) :=
    ⟨fun a j q => s.ow a j (unown_some q).1, fun a j q => er.own a j (unown_some q).1, fun a j n q => unown_eq q n⟩
  cases r with
  | fr d => cases hs; exact gen _ un.1 un.2.1 un.2.2 ⟨u, rfl, v⟩
  | rf k' => cases hs; obtain ⟨p, rfl, h1⟩ := v; exact gen _ un.1 un.2.1 un.2.2 ⟨p, rfl, h1⟩
  | sc ns => cases hs; obtain ⟨p, rfl, h1⟩ := v; exact gen _ un.1 un.2.1 un.2.2 ⟨p, rfl, h1⟩
  | bo j d => cases hs
  | ex p => cases hs; exact gen _ un.1 un.2.1 un.2.2 ⟨u, rfl, v⟩
  | ow d =>
    cases hs
    obtain ⟨p, rfl, h1, h2, h3, h4, h5⟩ := v
    refine gen (fun a => if a = p then some i else unown own i a) (fun a j q => ?_) (fun a j q => ?_) (fun a j n q => ?_) ⟨p, rfl, if_pos rfl, h5⟩
    · by_cases e : a = p
      · rw [e]; exact h4
      · rw [if_neg e] at q; exact un.1 a j q
    · by_cases e : a = p
      · rw [e]; exact ⟨h1, h3, h5.there⟩
      · rw [if_neg e] at q; exact un.2.1 a j q
    · by_cases e : a = p
      · subst e; rw [h2] at q; cases q
      · rw [if_neg e]; exact un.2.2 a j n q
def putS (i : Nat) (v : Vl) (env : En) (S : Sto) : Rs := match Sl.of v with
  | some sl => if i < env.length then .nx (env.set i sl) S else .stuck
  | none => .stuck
theorem KS_put {i : Nat} (er : ER M own F γ H env σ S) (s : SB B own F γ H) (v : VR M own B.H F γ H r u) (q : KS M W B F H (putS i r env S) D) : D.nx (σ.set i (some u)) H := by
  unfold putS at q
  cases e : Sl.of r with
  | none => rw [e] at q; exact q.elim
  | some sl =>
    rw [e] at q
    dsimp only at q
    by_cases hi : i < env.length
    · rw [if_pos hi] at q
      obtain ⟨own', s', er'⟩ := er.put s hi v e
      exact q own' F γ H _ s' .refl er'
    · rw [if_neg hi] at q; exact q.elim
def mSet (i : Nat) (ma : ME) : MS := fun env S => (ma env S).toS env fun v S' => putS i v env S'
theorem q_set (C : Ct P W N Nv G ls k X) (i : Nat) {x : Str} {pos' : Pos} (ha : ES X W a ma) (h : N[i]? = some x := by rfl) (hl : i ∈ ls := by decide) (hs : swapsWith a (some (.Name x pos')) pos.line X.env = pure false := by rfl) :
    SS X W B (.Assign [.Name x pos'] a pos) (mSet i ma) := ps_mono (ps_set (by rw [C.hN]; exact C.nd) (by rw [C.hN]; exact h) (C.loc i hl x h).1 ha hs (C.loc i hl x h).2) fun D σ H ⟨own, F, γ, env, S, s, er, q⟩ =>
  ⟨own, F, γ, env, S, er, KE_toS s q fun v F' γ' H' S' e s' er' q' u vr => KS_put er' s' (vr.back s.eg) q'⟩

/-! ### steps that the program does not show: slot i is frozen; slot i becomes a cell -/
def mFrz (i : Nat) (m : MS) : MS := fun env S => match env[i]? with
  | some (.ow d) => m (env.set i (.fr d)) S
  | _ => m env S
theorem tS_frz {i : Nat} (h : tS M W B (mFrz i m) D σ H) : tS M W B m D σ H := by
  obtain ⟨own, F, γ, env, S, s, er, q⟩ := h
  unfold mFrz at q
  split at q
  · rename_i d he
    obtain ⟨o, ho, p, rfl, hp, hw⟩ := er_at er he
    have hi : i < env.length := (List.getElem?_eq_some_iff.mp he).1
    have mo : Mo F H (fun a => F a ∨ a = p) H := Mo.addF
    have hne : ∀ a, (fun a => if a = p then none else own a) a = own a ∨ a = p := fun a => by
      by_cases e : a = p
      · exact .inr e
      · exact .inl (if_neg e)
    have sub : ∀ a j, (if a = p then none else own a) = some j → own a = some j ∧ a ≠ p := fun a j q => by
      by_cases e : a = p
      · rw [if_pos e] at q; cases q
      · rw [if_neg e] at q; exact ⟨q, e⟩
    refine ⟨fun a => if a = p then none else own a, fun a => F a ∨ a = p, γ, env.set i (.fr d), S, ⟨s.eg.frz mo fun a z => z.imp id fun e => by rw [e]; exact s.ow p i hp, fun a j q => s.ow a j (sub a j q).1⟩,
      ⟨by simp [er.len], fun j s' o q1 q2 => ?_, fun a j q => ⟨fun z => z.elim (er.own a j (sub a j q).1).1 (sub a j q).2, (er.own a j (sub a j q).1).2⟩, er.c.addF fun a e => by rw [e]; exact (er.own p i hp).2⟩, KS_step mo q⟩
    by_cases e : j = i
    · subst e
      rw [List.getElem?_set_self hi] at q1
      rw [ho] at q2
      cases q1; cases q2
      exact ⟨_, rfl, hw.frz mo (.inr rfl)⟩
    · rw [List.getElem?_set_ne (Ne.symm e)] at q1
      refine (er.slot j s' o q1 q2).addF.mono_own fun a qa => ?_
      rw [if_neg (fun z => ?_)]
      · exact qa
      · subst z; rw [hp] at qa; exact e (Option.some.inj qa).symm
  · exact ⟨own, F, γ, env, S, s, er, q⟩
theorem g_frz (i : Nat) (h : SS X W B st m) : SS X W B st (mFrz i m) := ps_mono h fun D σ H => tS_frz
theorem gs_frz (i : Nat) (h : SSs X W B sts m) : SSs X W B sts (mFrz i m) := pss_mono h fun D σ H => tS_frz
def mCell (i : Nat) (m : MS) : MS := fun env S => match env[i]? with
  | some (.ow (.list ds)) => m (env.set i (.rf S.length)) (S ++ [.lst (ds.map .fr)])
  | _ => .stuck
theorem IvR.all {K : PySem.W.Frag} : ∀ {ds : List PyData} {vs : List V}, RpAll K F H ds vs → Paired (IvR K F H γ) (ds.map .fr) vs
  | [], vs, h => by simp only [RpAll] at h; subst h; exact .nil
  | d :: ds, vs, h => by
    simp only [RpAll] at h
    obtain ⟨v, r, rfl, h1, h2⟩ := h
    exact .cons h1 (IvR.all h2)
/-- a cell more -/
theorem EG.cell {p : Addr} (h : H p = none) (e : EG F γ H F' γ' H') (hp : p ∉ γ') : EG F γ H F' (γ' ++ [p]) H' := by
  obtain ⟨δ, rfl, hd⟩ := e.gam
  refine ⟨e.toMo, e.keep, e.tr, e.fresh, δ ++ [p], by rw [List.append_assoc], fun a m => ?_⟩
  rcases List.mem_append.mp m with m | m
  · exact hd a m
  · rw [List.mem_singleton.mp m]; exact h
theorem get_app {α : Type} {xs : List α} {y z : α} {k : Nat} (h : xs[k]? = some z) : (xs ++ [y])[k]? = some z := by
  rw [List.getElem?_append_left (List.getElem?_eq_some_iff.mp h).1]; exact h
theorem get_app_inv {α : Type} {xs : List α} {y z : α} {k : Nat} (h : (xs ++ [y])[k]? = some z) : xs[k]? = some z ∨ (k = xs.length ∧ z = y) := by
  by_cases e : k < xs.length
  · rw [List.getElem?_append_left e] at h; exact .inl h
  · rw [List.getElem?_append_right (by omega)] at h
    have : k - xs.length = 0 := by
      cases hk : k - xs.length with
      | zero => rfl
      | succ n => rw [hk] at h; simp at h
    rw [this] at h
    simp at h
    exact .inr ⟨by omega, h.symm⟩
theorem ObR.app {ob : Ob} {a p : Addr} (h : ObR M F H γ ob a) : ObR M F H (γ ++ [p]) ob a := by
  have iv : ∀ i v, IvR M.K F H γ i v → IvR M.K F H (γ ++ [p]) i v := fun i v q => by
    cases i with
    | fr d => exact q
    | rf k => obtain ⟨b, h1, h2⟩ := q; exact ⟨b, get_app h1, h2⟩
  cases ob with
  | lst xs =>
    obtain ⟨vs, h1, h2⟩ := h
    exact ⟨vs, h1, Paired.mapR iv h2⟩
  | ins c fs =>
    obtain ⟨C, dx, vfs, h1, h2, h3⟩ := h
    exact ⟨C, dx, vfs, h1, h2, Paired.mapR (fun _ _ q => ⟨q.1, iv _ _ q.2⟩) h3⟩
theorem CR2.app {ob : Ob} {p : Addr} (h : CR2 M F γ H S) (hp : p ∉ γ) (nF : ¬ F p) (ht : H p ≠ none) (ho : ObR M F H γ ob p) : CR2 M F (γ ++ [p]) H (S ++ [ob]) := by
  refine ⟨h.ft, by simp [h.len], List.nodup_append.mpr ⟨h.nd, by simp, fun a m b mb => ?_⟩, fun a m => ?_, fun k ob' a h1 h2 => ?_⟩
  · rw [List.mem_singleton.mp mb]; exact fun z => hp (z ▸ m)
  · rcases List.mem_append.mp m with m | m
    · exact h.nF a m
    · rw [List.mem_singleton.mp m]; exact ⟨nF, ht⟩
  · rcases get_app_inv h1 with q | ⟨q, rfl⟩
    · rcases get_app_inv h2 with q2 | ⟨q2, _⟩
      · exact (h.cell k ob' a q q2).app
      · have := (List.getElem?_eq_some_iff.mp q).1
        have := h.len
        omega
    · rcases get_app_inv h2 with q2 | ⟨_, rfl⟩
      · have := (List.getElem?_eq_some_iff.mp q2).1
        have := h.len
        omega
      · exact ho.app
theorem tS_cell {i : Nat} (h : tS M W B (mCell i m) D σ H) : tS M W B m D σ H := by
  obtain ⟨own, F, γ, env, S, s, er, q⟩ := h
  unfold mCell at q
  split at q
  · rename_i ds he
    obtain ⟨o, ho, p, rfl, hp, xs, hx, hr⟩ := er_at er he
    have hi : i < env.length := (List.getElem?_eq_some_iff.mp he).1
    have sub : ∀ a j, (if a = p then none else own a) = some j → own a = some j ∧ a ≠ p := fun a j q => by
      by_cases e : a = p
      · rw [if_pos e] at q; cases q
      · rw [if_neg e] at q; exact ⟨q, e⟩
    have o3 := er.own p i hp
    refine ⟨fun a => if a = p then none else own a, F, γ ++ [p], env.set i (.rf S.length), S ++ [.lst (ds.map .fr)], ⟨s.eg.cell (s.ow p i hp) o3.2.1, fun a j q => s.ow a j (sub a j q).1⟩,
      ⟨by simp [er.len], fun j s' o q1 q2 => ?_, fun a j q => ?_, er.c.app o3.2.1 o3.1 o3.2.2 (show ObR M F H γ (.lst (ds.map .fr)) p from ⟨xs, hx, IvR.all hr⟩)⟩, q⟩
    · by_cases e : j = i
      · subst e
        rw [List.getElem?_set_self hi] at q1
        rw [ho] at q2
        cases q1; cases q2
        exact ⟨p, rfl, by rw [← er.c.len]; simp⟩
      · rw [List.getElem?_set_ne (Ne.symm e)] at q1
        have z := er.slot j s' o q1 q2
        cases s' with
        | un => trivial
        | fr d => exact z
        | sc ns => exact z
        | ex pl =>
          obtain ⟨u, rfl, a, d, g1, g2, g3⟩ := z
          refine ⟨u, rfl, a, d, g1, g2, fun q hq => ?_⟩
          obtain ⟨dd, v, k1, k2, k3, k4⟩ := g3 q hq
          refine ⟨dd, v, k1, fun m => ?_, k3, k4⟩
          rcases List.mem_append.mp m with m | m
          · exact k2 m
          · rw [List.mem_singleton.mp m, hx] at k3; cases k3
        | rf k => obtain ⟨p', rfl, h1⟩ := z; exact ⟨p', rfl, get_app h1⟩
        | ow d =>
          obtain ⟨p', rfl, h1, h2⟩ := z
          refine ⟨p', rfl, (if_neg (fun z => ?_)).trans h1, h2⟩
          subst z; rw [hp] at h1; exact e (Option.some.inj h1).symm
    · obtain ⟨q1, q2⟩ := sub a j q
      refine ⟨(er.own a j q1).1, fun z => ?_, (er.own a j q1).2.2⟩
      rcases List.mem_append.mp z with z | z
      · exact (er.own a j q1).2.1 z
      · exact q2 (List.mem_singleton.mp z)
  · exact q.elim
theorem g_cell (i : Nat) (h : SS X W B st m) : SS X W B st (mCell i m) := ps_mono h fun D σ H => tS_cell
theorem gs_cell (i : Nat) (h : SSs X W B sts m) : SSs X W B sts (mCell i m) := pss_mono h fun D σ H => tS_cell
end
end TL
end

section
set_option Elab.async false
set_option linter.all false
set_option maxRecDepth 100000
set_option maxHeartbeats 1000000
namespace TL
open PySem PySem.Spec PyProof.Rows L2

section
variable {X : Cx} {W : WX} {B : Bs} {N Nv G : List Str} {ls : List Nat} {P : Pg} {k : Nat} {M : Md} {own own' : Addr → Option Nat} {F F' F1 F2 Fs Fs' : Addr → Prop} {γ γ' γ1 γ2 : List Addr} {H H' H0 H1 H2 Hs Hs' : Hp} {env env' : En} {σ σ' : L2.St} {S S' S1 : Sto} {r : Vl} {u : V} {Q : VK} {D : Ends}
variable {a b c e : Expr} {es : List Expr} {ma mb mc : ME} {mr : MA} {mt mu : MT} {pos : Pos} {st : Stmt} {sts : List Stmt} {m m' : MS}

/-! ### raise -/
def mRaise (x : Str) : MS := fun env S => .exc ⟨x, none⟩ env S
/-- a class of the program that raise takes with a text -/
structure ExT (X : Cx) (x : Str) (C : Addr) : Prop where
  f : ∃ (bm : List Value) (B nw ini : String), PySem.ExcBaseFacts B nw ini bm ∧ PySem.W.excIn X.K C bm nw = true
  g : X.mg x = some (.ref C)
  k : PySem.W.keepIn X.K (.ref C) = true
  r : Raises X (.ref C)
theorem q_raise (C : Ct P W N Nv G ls k X) (hc : X.calm = true) {C' : Addr} {x msg : Str} {j : Nat} {p p2 pos' : Pos} (i : Nat) (E : ExT X x C') (hg : G[i]? = some x := by rfl) (hd : (x == ("__debug__" : Str)) = false := by decide) :
    SS X W B (.Raise (some (.Call (.Name x p) [.Constant (.str msg) j p2] [] pos')) none pos) (mRaise x) := by
  obtain ⟨bm, B', nw, ini, f, f2⟩ := E.f
  exact ps_mono (L2N.ps_raise hc C.tk (L2N.pmk_own f f2 E.g E.k E.r (C.glo i x hg) hd)) fun D σ H ⟨own, F, γ, env, S, s, er, q⟩ => q own F γ H σ _ none s .refl er ⟨E.g, rfl⟩

/-! ### a list that a slot owns is written -/
theorem upd_keep {p a : Addr} {o o' : HO} (h : H a = some o) (n : a ≠ p) : upd H p o' a = some o := by rw [upd_ne n]; exact h
theorem Mo.wr {p : Addr} {xs : List V} {o : HO} (hp : H p = some (.lst xs)) (nF : ¬ F p) : Mo F H F (upd H p o) :=
  ⟨fun a o' h f => upd_keep h fun z => nF (z ▸ f), fun a ys h => upd_keep h fun z => by rw [z, hp] at h; (have h' := Option.some.inj h; cases h'), fun a o' u h => upd_keep h fun z => by rw [z, hp] at h; (have h' := Option.some.inj h; cases h'), fun _ q => q⟩
theorem upd_there {p a : Addr} {o : HO} (h : H a ≠ none) : upd H p o a ≠ none := by
  by_cases e : a = p
  · rw [e, upd_same]; exact fun z => nomatch z
  · rw [upd_ne e]; exact h
theorem SB.wr {p : Addr} {i : Nat} {xs : List V} {o : HO} (s : SB B own F γ H) (hp : H p = some (.lst xs)) (ho : own p = some i) (nF : ¬ F p) : SB B own F γ (upd H p o) := by
  have b := s.ow p i ho
  have ne : ∀ a o', B.H a = some o' → a ≠ p := fun a o' h z => by rw [z, b] at h; cases h
  exact ⟨⟨⟨fun a o' h f => upd_keep (s.eg.keepF a o' h f) (ne a o' h), fun a ys h => upd_keep (s.eg.tups a ys h) (ne a _ h), fun a o' u h => upd_keep (s.eg.frzs a o' u h) (ne a _ h), s.eg.mono⟩, fun a o' h n => upd_keep (s.eg.keep a o' h n) (ne a _ h), fun a h => upd_there (s.eg.tr a h), s.eg.fresh, s.eg.gam⟩, s.ow⟩
theorem Ow.wr {p q : Addr} {o : HO} {d : PyData} {K : PySem.W.Frag} (mo : Mo F H F (upd H p o)) (n : q ≠ p) (h : Ow K F H d q) : Ow K F (upd H p o) d q := h.mono mo fun _ z => upd_keep z n
theorem SlR.wr {p : Addr} {o : HO} {j : Nat} {sl : Sl} {ov : Option V} (mo : Mo F H F (upd H p o)) (n : ∀ q, own q = some j → q ≠ p) (nx : ∀ q fs, H q = some (.xd fs) → q ≠ p) (h : SlR M own F γ H j sl ov) : SlR M own F γ (upd H p o) j sl ov := by
  cases sl with
  | un => trivial
  | fr d => obtain ⟨u, rfl, h⟩ := h; exact ⟨u, rfl, Rp.mono mo d u h⟩
  | ow d => obtain ⟨q, rfl, h1, h2⟩ := h; exact ⟨q, rfl, h1, h2.wr mo (n q h1)⟩
  | rf k => exact h
  | sc ns => obtain ⟨q, rfl, h⟩ := h; exact ⟨q, rfl, mo.sc h⟩
  | ex pl =>
    obtain ⟨u, rfl, a, d, g1, g2, g3⟩ := h
    refine ⟨u, rfl, a, d, g1, g2, fun q hq => ?_⟩
    obtain ⟨dd, v, k1, k2, k3, k4⟩ := g3 q hq
    exact ⟨dd, v, k1, k2, upd_keep k3 (nx dd _ k3), Rp.mono mo q v k4⟩
theorem IvR.wr {p : Addr} {o : HO} {K : PySem.W.Frag} {i : Iv} {v : V} (mo : Mo F H F (upd H p o)) (h : IvR K F H γ i v) : IvR K F (upd H p o) γ i v := by
  cases i with
  | fr d => exact Rp.mono mo d v h
  | rf k => exact h
theorem ObR.wr {p q : Addr} {o : HO} {ob : Ob} (mo : Mo F H F (upd H p o)) (n : q ≠ p) (h : ObR M F H γ ob q) : ObR M F (upd H p o) γ ob q := by
  cases ob with
  | lst xs =>
    obtain ⟨vs, h1, h2⟩ := h
    exact ⟨vs, upd_keep h1 n, Paired.mapR (fun _ _ z => IvR.wr mo z) h2⟩
  | ins c fs =>
    obtain ⟨C, dx, vfs, h1, h2, h3⟩ := h
    exact ⟨C, dx, vfs, h1, upd_keep h2 n, Paired.mapR (fun _ _ z => ⟨z.1, IvR.wr mo z.2⟩) h3⟩
theorem ER.wr {p : Addr} {i : Nat} {xs ys : List V} {ds es : List PyData} (er : ER M own F γ H env σ S) (he : env[i]? = some (.ow (.list ds))) (hu : σ[i]? = some (some (.ref p))) (ho : own p = some i) (hp : H p = some (.lst xs)) (hr : RpAll M.K F H es ys) :
    ER M own F γ (upd H p (.lst ys)) (env.set i (.ow (.list es))) σ S := by
  have o3 := er.own p i ho
  have hi : i < env.length := (List.getElem?_eq_some_iff.mp he).1
  have mo : Mo F H F (upd H p (.lst ys)) := Mo.wr hp o3.1
  refine ⟨by simp [er.len], fun j s' o q1 q2 => ?_, fun a j q => ⟨(er.own a j q).1, (er.own a j q).2.1, upd_there (er.own a j q).2.2⟩, ⟨fun a f => upd_there (er.c.ft a f), er.c.len, er.c.nd, fun a m => ⟨(er.c.nF a m).1, upd_there (er.c.nF a m).2⟩, fun kk ob a h1 h2 => ?_⟩⟩
  · by_cases e : j = i
    · subst e
      rw [List.getElem?_set_self hi] at q1
      rw [hu] at q2
      cases q1; cases q2
      exact ⟨p, rfl, ho, ys, upd_same, RpAll.mono mo es ys hr⟩
    · rw [List.getElem?_set_ne (Ne.symm e)] at q1
      exact (er.slot j s' o q1 q2).wr mo (fun q hq z => by subst z; rw [ho] at hq; exact e (Option.some.inj hq).symm) fun q fs h z => by subst z; rw [hp] at h; cases h
  · exact (er.c.cell kk ob a h1 h2).wr mo fun z => o3.2.1 (z ▸ List.mem_of_getElem? h2)
theorem RpAll.set {K : PySem.W.Frag} : ∀ {ds : List PyData} {vs : List V} (i : Nat) {d : PyData} {v : V}, RpAll K F H ds vs → Rp K F H d v → RpAll K F H (ds.set i d) (vs.set i v)
  | [], vs, i, d, v, h, _ => by simp only [RpAll] at h; subst h; simp [RpAll]
  | d' :: ds, vs, 0, d, v, h, q => by
    simp only [RpAll] at h
    obtain ⟨v', r, rfl, h1, h2⟩ := h
    exact .cons q h2
  | d' :: ds, vs, i + 1, d, v, h, q => by
    simp only [RpAll] at h
    obtain ⟨v', r, rfl, h1, h2⟩ := h
    exact .cons h1 (RpAll.set i h2 q)
/-- an argument, frozen -/
def Vl.frz : Vl → Option PyData
  | .fr d => some d
  | .ow d => some d
  | _ => none
theorem frz_dat {d : PyData} (h : r.frz = some d) : r.dat = some d ∧ ∀ i d, r ≠ .bo i d := by
  cases r with
  | fr d' => exact ⟨h, fun _ _ z => nomatch z⟩
  | ow d' => exact ⟨h, fun _ _ z => nomatch z⟩
  | _ => cases h
/-- xs.append(e): xs at slot i -/
def mApp (i : Nat) (ma : ME) : MS := fun env S => match env[i]? with
  | some (.ow (.list ds)) => (ma env S).toS env fun v S' => match v.frz with
    | some d => if ds.length < 16777216 then .nx (env.set i (.ow (.list (ds ++ [d])))) S' else .stuck
    | none => .stuck
  | _ => .stuck
theorem mtr_append : MtR X "list.append" rAppend := fun pins s σ H x xs v us Q => mt_append pins s σ H x xs v us Q
theorem size16 : (16777216 : Nat) ≤ sizeLine := by rw [sizeLine_eq]; decide
theorem q_app (C : Ct P W N Nv G ls k X) (i : Nat) {x : Str} {p p2 pos' : Pos} (ha : ES X W a ma) (h : Nv[i]? = some x := by rfl) (hx : (x == "") = false := by rfl) (hd : (x == ("__debug__" : Str)) = false := by decide) (hcd : (x == ("__classdict__" : Str)) = false := by decide)
    (hbase : attributeBase (.Name x p) "append" X.env (eval (.Name x p) X.env) = eval (.Name x p) X.env := by rfl)
    (hfew : ((backTo pos' (starEach [a] X.env)).all (fun x => !x.1) && (backToKw pos' (keywordEach [] X.env)).all (fun x => x.1.isSome)
      && decide ([a].length + ([] : List Keyword).length + (if ([] : List Keyword).isEmpty then 0 else 1) < 30)) = true := by rfl)
    (hline : (p2.endLine == pos'.line) = true := by rfl) (hs : starEach [a] X.env = (false, eval a X.env) :: starEach [] X.env := by rfl) (hplain : (backTo pos' (starEach [] X.env)).any (·.1) = false := by rfl)
    (hsw : swapsWith (.Call (.Attribute (.Name x p) "append" p2) [a] [] pos') none pos.line X.env = pure false := by rfl) :
    SS X W B (.Expr (.Call (.Attribute (.Name x p) "append" p2) [a] [] pos') pos) (mApp i ma) := by
  obtain ⟨h1, h2⟩ := C.vis i x h hx
  refine ps_mono (ps_expr (pe_bm PySem.F.plainAttrs_list PySem.F.slot_list_append PySem.F.type_list_append mtr_append (pe_var (i := i) (by rw [C.hN]; exact h1) h2 hd hcd) (pa_cons ha pa_nil hs) hbase hfew hline hs hplain) hsw) ?_
  rintro D σ H ⟨own, F, γ, env, S, s, er, q⟩
  unfold mApp at q
  split at q
  · rename_i ds he
    obtain ⟨o, ho, p, rfl, hp, xs, hx, hr⟩ := er_at er he
    refine ⟨_, ho, .inl ⟨rfl, xs, .inl (.inl hx)⟩, own, F, γ, env, S, er, KE_toS s q fun v F' γ' H' S' e s' er' q' u vr => ?_⟩
    cases hf : v.frz with
    | none => rw [hf] at q'; exact q'.elim
    | some d =>
      rw [hf] at q'
      dsimp only at q'
      by_cases hz : ds.length < 16777216
      · rw [if_pos hz] at q'
        obtain ⟨hd, nb⟩ := frz_dat hf
        obtain ⟨F3, m3, er3, rp, hfr⟩ := er'.freeze vr hd nb
        obtain ⟨o2, ho2, p2, rfl, hp2, xs2, hx2, hr2⟩ := er_at er3 he
        rw [ho] at ho2
        cases ho2
        have s3 : SB B own F3 γ' H' := s.step (e.frz m3 hfr)
        have hl := RpAll.length hr2
        refine ⟨_, _, _, rfl, rfl, hx2, ?_, ?_⟩
        · rw [← hl]; exact Nat.lt_of_lt_of_le hz size16
        · exact q' own F3 γ' _ σ (s3.wr hx2 hp2 (er3.own _ i hp2).1) (m3.trans (Mo.wr hx2 (er3.own _ i hp2).1)) (er3.wr he ho hp2 hx2 (hr2.append (.one rp)))
      · rw [if_neg hz] at q'; exact q'.elim
  · exact q.elim

/-! ### o[i] = e -/
def mSetI (i : Nat) (mi ma : ME) : MS := fun env S => match env[i]? with
  | some (.ow (.list ds)) => (ma env S).toS env fun v S1 => (mi env S1).toS env fun ix S2 => match v.frz, ix.dat with
    | some d, some (.int j) => match ixN ds.length j with
      | some jj => .nx (env.set i (.ow (.list (ds.set jj d)))) S2
      | none => .stuck
    | _, _ => .stuck
  | _ => .stuck
theorem ps_seti (C : Ct P W N Nv G ls k X) (i : Nat) {x : Str} {p p2 : Pos} {ta ti : TE} (ha : PE X a ta) (hi : PE X b ti) (h : Nv[i]? = some x) (hx : (x == "") = false) (hd : (x == ("__debug__" : Str)) = false) (hcd : (x == ("__classdict__" : Str)) = false)
    (hs : swapsWithSole [.Subscript (.Name x p) b p2] a pos.line X.env = pure false := by rfl) (hw : swappedStores [.Subscript (.Name x p) b p2] a X.env = pure none := by rfl)
    (h1 : (assignEach [.Subscript (.Name x p) b p2] X.env).map (·.2) = [assign (.Subscript (.Name x p) b p2) X.env] := by rfl)
    (h3 : ∀ v, assign (.Subscript (.Name x p) b p2) X.env v = (do
      let ov ← holding [v] (eval (.Name x p) X.env)
      let iv ← holding [v, ov] (eval b X.env)
      standAt p2
      holding [v, ov, iv] (setItem ov iv v)
      release [v, ov, iv] []) := by intro _; rfl) :
    PS X (.Assign [.Subscript (.Name x p) b p2] a pos) (tAsg ta (gSub (tVar i) ti rSetL)) := by
  obtain ⟨g1, g2⟩ := C.vis i x h hx
  exact ps_asg ha (pg_sub (pe_var (i := i) (by rw [C.hN]; exact g1) g2 hd hcd) hi set_list h3) hs hw h1
theorem ixN_map {α β : Type} {xs : List α} {ys : List β} {i : Int} (h : xs.length = ys.length) : ixN xs.length i = ixN ys.length i := by rw [h]
theorem tS_setI {i : Nat} {mi : ME} (h : tS M W B (mSetI i mi ma) D σ H) : tAsg (tE M W ma) (gSub (tVar i) (tE M W mi) rSetL) D σ H := by
  obtain ⟨own, F, γ, env, S, s, er, q⟩ := h
  unfold mSetI at q
  split at q
  · rename_i ds he
    obtain ⟨o, ho, p, rfl, hp, _⟩ := er_at er he
    refine ⟨own, F, γ, env, S, er, KE_toS s q fun v F1 γ1 H1 S1 e1 s1 er1 q1 u vr => ⟨_, ho, own, F1, γ1, env, S1, er1, KE_toS s1 q1 fun ix F2 γ2 H2 S2 e2 s2 er2 q2 u2 vr2 => ?_⟩⟩
    have vr := vr.mono e2
    cases hf : v.frz with
    | none => rw [hf] at q2; exact q2.elim
    | some d =>
      cases hj : ix.dat with
      | none => rw [hf, hj] at q2; exact q2.elim
      | some dj =>
        cases dj with
        | int j =>
          rw [hf, hj] at q2
          dsimp only at q2
          cases hjj : ixN ds.length j with
          | none => rw [hjj] at q2; exact q2.elim
          | some jj =>
            rw [hjj] at q2
            obtain ⟨hd, nb⟩ := frz_dat hf
            obtain ⟨F3, m3, er3, rp, hfr⟩ := er2.freeze vr hd nb
            obtain ⟨o2, ho2, p2, rfl, hp2, xs2, hx2, hr2⟩ := er_at er3 he
            rw [ho] at ho2
            cases ho2
            have s3 : SB B own F3 γ2 H2 := s.step ((e1.trans e2).frz m3 hfr)
            have hl := RpAll.length hr2
            refine ⟨p, xs2, j, jj, rfl, vr2.int hj, hx2, by rw [← hl]; exact hjj, ?_⟩
            exact q2 own F3 γ2 _ σ (s3.wr hx2 hp2 (er3.own _ i hp2).1) (m3.trans (Mo.wr hx2 (er3.own _ i hp2).1)) (er3.wr he ho hp2 hx2 (RpAll.set jj hr2 rp))
        | _ => rw [hf, hj] at q2; exact q2.elim
  · exact q.elim
theorem q_seti (C : Ct P W N Nv G ls k X) (i : Nat) {x : Str} {mi : ME} {p p2 : Pos} (ha : ES X W a ma) (hi : ES X W b mi) (h : Nv[i]? = some x := by rfl) (hx : (x == "") = false := by rfl) (hd : (x == ("__debug__" : Str)) = false := by decide) (hcd : (x == ("__classdict__" : Str)) = false := by decide)
    (hs : swapsWithSole [.Subscript (.Name x p) b p2] a pos.line X.env = pure false := by rfl) (hw : swappedStores [.Subscript (.Name x p) b p2] a X.env = pure none := by rfl)
    (h1 : (assignEach [.Subscript (.Name x p) b p2] X.env).map (·.2) = [assign (.Subscript (.Name x p) b p2) X.env] := by rfl)
    (h3 : ∀ v, assign (.Subscript (.Name x p) b p2) X.env v = (do
      let ov ← holding [v] (eval (.Name x p) X.env)
      let iv ← holding [v, ov] (eval b X.env)
      standAt p2
      holding [v, ov, iv] (setItem ov iv v)
      release [v, ov, iv] []) := by intro _; rfl) :
    SS X W B (.Assign [.Subscript (.Name x p) b p2] a pos) (mSetI i mi ma) := ps_mono (ps_seti C i ha hi h hx hd hcd hs hw h1 h3) fun D σ H => tS_setI

/-! ### cells: read, written -/
/-- o[i], o a cell -/
def mCix (ma mb : ME) : ME := fun env S => (ma env S).bind fun x S1 => (mb env S1).bind fun y S2 => match x, y.dat with
  | .rf k, some (.int j) => match S2[k]? with
    | some (.lst xs) => match atI xs j with
      | some (.fr d) => .ok (.fr d) S2
      | some (.rf k') => .ok (.rf k') S2
      | none => .stuck
    | _ => .stuck
  | _, _ => .stuck
theorem paired_get {α β : Type} {R : α → β → Prop} : ∀ {xs : List α} {ys : List β} {j : Nat} {x : α}, Paired R xs ys → xs[j]? = some x → ∃ y, ys[j]? = some y ∧ R x y
  | [], _, j, x, _, e => by simp at e
  | x' :: xs, _, 0, x, .cons r t, e => by simp at e; subst e; exact ⟨_, rfl, r⟩
  | x' :: xs, _, j + 1, x, .cons r t, e => by simpa using paired_get t (by simpa using e)
theorem paired_atI {α β : Type} {R : α → β → Prop} {xs : List α} {ys : List β} {i : Int} {x : α} (h : Paired R xs ys) (e : L2.atI xs i = some x) : ∃ y, L2.atI ys i = some y ∧ R x y := by
  unfold L2.atI at e ⊢
  rw [← h.length]
  cases hx : ixN xs.length i with
  | none => rw [hx] at e; cases e
  | some j => rw [hx] at e; exact paired_get h e
theorem paired_set {α β : Type} {R : α → β → Prop} {x : α} {y : β} (r : R x y) : ∀ {xs : List α} {ys : List β} (j : Nat), Paired R xs ys → Paired R (xs.set j x) (ys.set j y)
  | [], _, j, .nil => by simpa using Paired.nil
  | x' :: xs, _, 0, .cons _ t => .cons r t
  | x' :: xs, _, j + 1, .cons r' t => .cons r' (paired_set r j t)
theorem s_cix (ha : ES X W a ma) (hb : ES X W b mb) (hs : PlainIx b := by intro _ _; rfl) : ES X W (.Subscript a b pos) (mCix ma mb) :=
  pe_mono (pe_ix (r := fun x y H Q => ∃ p xs j v, x = .ref p ∧ y = .int j ∧ H p = some (.lst xs) ∧ L2.atI xs j = some v ∧ Q v H) (fun value slice pins s σ H x y v u Q I rx ry ⟨p, xs, j, z, e1, e2, e3, e4, q⟩ =>
    ix_list value slice pins s σ H x y v u Q I rx ry ⟨p, xs, j, z, e1, e2, .inl (.inl e3), e4, q⟩) ha hb hs) fun σ H Q ⟨own, F, γ, env, S, er, q⟩ => by
    refine ⟨own, F, γ, env, S, er, KE_mono (KG_bindE .refl q) ?_⟩
    rintro u H1 ⟨F1, γ1, S1, x, _, g1, er1, v1, _, q1⟩
    refine ⟨own, F1, γ1, env, S1, er1, KE_mono (KG_bindE g1 q1) ?_⟩
    rintro v H2 ⟨F2, γ2, S2, y, e2, g2, er2, v2, _, q2⟩
    have v1 := v1.mono e2
    cases x with
    | rf kk =>
      cases hj : y.dat with
      | none => rw [hj] at q2; exact q2.elim
      | some dj =>
        cases dj with
        | int j =>
          rw [hj] at q2
          dsimp only at q2
          cases hS : S2[kk]? with
          | none => rw [hS] at q2; exact q2.elim
          | some ob =>
            cases ob with
            | ins c fs => rw [hS] at q2; exact q2.elim
            | lst xs =>
              rw [hS] at q2
              dsimp only at q2
              obtain ⟨p, rfl, hp⟩ := v1
              obtain ⟨vs, h1, h2⟩ := er2.c.cell kk _ p hS hp
              cases hx : L2.atI xs j with
              | none => rw [hx] at q2; exact q2.elim
              | some iv =>
                obtain ⟨w, hw, rw'⟩ := paired_atI h2 hx
                refine ⟨p, vs, j, w, rfl, v2.int hj, h1, hw, ?_⟩
                rw [hx] at q2
                cases iv with
                | fr d => exact q2 F2 γ2 H2 g2 er2 w rw'
                | rf k' =>
                  obtain ⟨a', g3, rfl⟩ := rw'
                  exact q2 F2 γ2 H2 g2 er2 _ ⟨a', rfl, g3⟩
        | _ => rw [hj] at q2; exact q2.elim
    | _ => exact q2.elim

theorem nodup_ix' {xs : List Addr} (nd : xs.Nodup) {i j : Nat} {p : Addr} (a : xs[i]? = some p) (b : xs[j]? = some p) : i = j := by
  obtain ⟨h1, e1⟩ := List.getElem?_eq_some_iff.mp a
  obtain ⟨h2, e2⟩ := List.getElem?_eq_some_iff.mp b
  have p := List.pairwise_iff_getElem.mp nd
  rcases Nat.lt_trichotomy i j with l | l | l
  · exact absurd (e1.trans e2.symm) (p i j h1 h2 l)
  · exact l
  · exact absurd (e2.trans e1.symm) (p j i h2 h1 l)
/-- a cell is written -/
theorem SB.wrC {p : Addr} {kk : Nat} {xs : List V} {o : HO} (s : SB B own F γ H) (hp : H p = some (.lst xs)) (hk : γ[kk]? = some p) (nF : ¬ F p) : SB B own F γ (upd H p o) := by
  have alt : p ∈ B.g ∨ B.H p = none := by
    obtain ⟨δ, hg, hd⟩ := s.eg.gam
    have m := List.mem_of_getElem? hk
    rw [hg] at m
    exact (List.mem_append.mp m).imp id (hd p)
  have mo : Mo F H F (upd H p o) := Mo.wr hp nF
  have t := s.eg.toMo.trans mo
  refine ⟨⟨t, fun a o' h n => ?_, fun a h => upd_there (s.eg.tr a h), s.eg.fresh, s.eg.gam⟩, s.ow⟩
  refine upd_keep (s.eg.keep a o' h n) fun z => ?_
  subst z
  exact alt.elim n fun z => by rw [z] at h; cases h
theorem ER.wrC {p : Addr} {kk : Nat} {vs ws : List V} {xs ys : List Iv} (er : ER M own F γ H env σ S) (hS : S[kk]? = some (.lst xs)) (hk : γ[kk]? = some p) (hp : H p = some (.lst vs)) (hr : Paired (IvR M.K F H γ) ys ws) :
    ER M own F γ (upd H p (.lst ws)) env σ (S.set kk (.lst ys)) := by
  have mem := List.mem_of_getElem? hk
  have nF := (er.c.nF p mem).1
  have mo : Mo F H F (upd H p (.lst ws)) := Mo.wr hp nF
  have hkl : kk < S.length := (List.getElem?_eq_some_iff.mp hS).1
  refine ⟨er.len, fun j s' o q1 q2 => (er.slot j s' o q1 q2).wr mo (fun q hq z => (er.own q j hq).2.1 (z ▸ mem)) (fun q fs h z => by subst z; rw [hp] at h; cases h), fun a j q => ⟨(er.own a j q).1, (er.own a j q).2.1, upd_there (er.own a j q).2.2⟩,
    ⟨fun a f => upd_there (er.c.ft a f), by simp [er.c.len], er.c.nd, fun a m => ⟨(er.c.nF a m).1, upd_there (er.c.nF a m).2⟩, fun k2 ob a h1 h2 => ?_⟩⟩
  by_cases e : k2 = kk
  · subst e
    rw [List.getElem?_set_self hkl] at h1
    rw [hk] at h2
    cases h1; cases h2
    exact ⟨ws, upd_same, Paired.mapR (fun _ _ z => IvR.wr mo z) hr⟩
  · rw [List.getElem?_set_ne (Ne.symm e)] at h1
    refine (er.c.cell k2 ob a h1 h2).wr mo fun z => e ?_
    subst z
    exact nodup_ix' er.c.nd h2 hk
/-- x[i] = e, x a cell -/
def mSetC (i : Nat) (mi ma : ME) : MS := fun env S => match env[i]? with
  | some (.rf kk) => (ma env S).toS env fun v S1 => (mi env S1).toS env fun ix S2 => match v.frz, ix.dat, S2[kk]? with
    | some d, some (.int j), some (.lst xs) => match ixN xs.length j with
      | some jj => .nx env (S2.set kk (.lst (xs.set jj (.fr d))))
      | none => .stuck
    | _, _, _ => .stuck
  | _ => .stuck
theorem tS_setC {i : Nat} {mi : ME} (h : tS M W B (mSetC i mi ma) D σ H) : tAsg (tE M W ma) (gSub (tVar i) (tE M W mi) rSetL) D σ H := by
  obtain ⟨own, F, γ, env, S, s, er, q⟩ := h
  unfold mSetC at q
  split at q
  · rename_i kk he
    obtain ⟨o, ho, p, rfl, hp⟩ := er_at er he
    refine ⟨own, F, γ, env, S, er, KE_toS s q fun v F1 γ1 H1 S1 e1 s1 er1 q1 u vr => ⟨_, ho, own, F1, γ1, env, S1, er1, KE_toS s1 q1 fun ix F2 γ2 H2 S2 e2 s2 er2 q2 u2 vr2 => ?_⟩⟩
    have vr := vr.mono e2
    cases hf : v.frz with
    | none => rw [hf] at q2; exact q2.elim
    | some d =>
      cases hj : ix.dat with
      | none => rw [hf, hj] at q2; exact q2.elim
      | some dj =>
        cases dj with
        | int j =>
          cases hS : S2[kk]? with
          | none => rw [hf, hj, hS] at q2; exact q2.elim
          | some ob =>
            cases ob with
            | ins c fs => rw [hf, hj, hS] at q2; exact q2.elim
            | lst xs =>
              rw [hf, hj, hS] at q2
              dsimp only at q2
              cases hjj : ixN xs.length j with
              | none => rw [hjj] at q2; exact q2.elim
              | some jj =>
                rw [hjj] at q2
                obtain ⟨hd, nb⟩ := frz_dat hf
                obtain ⟨F3, m3, er3, rp, hfr⟩ := er2.freeze vr hd nb
                have g2 : γ2[kk]? = some p := e2.get (e1.get hp)
                obtain ⟨vs, h1, h2⟩ := er3.c.cell kk _ p hS g2
                have s3 : SB B own F3 γ2 H2 := s.step ((e1.trans e2).frz m3 hfr)
                have nF := (er3.c.nF p (List.mem_of_getElem? g2)).1
                refine ⟨p, vs, j, jj, rfl, vr2.int hj, h1, by rw [← h2.length]; exact hjj, ?_⟩
                exact q2 own F3 γ2 _ σ (s3.wrC h1 g2 nF) (m3.trans (Mo.wr h1 nF)) (er3.wrC hS g2 h1 (paired_set (R := IvR M.K F3 H2 γ2) (x := .fr d) rp jj h2))
        | _ => rw [hf, hj] at q2; exact q2.elim
  · exact q.elim
theorem q_setc (C : Ct P W N Nv G ls k X) (i : Nat) {x : Str} {mi : ME} {p p2 : Pos} (ha : ES X W a ma) (hi : ES X W b mi) (h : Nv[i]? = some x := by rfl) (hx : (x == "") = false := by rfl) (hd : (x == ("__debug__" : Str)) = false := by decide) (hcd : (x == ("__classdict__" : Str)) = false := by decide)
    (hs : swapsWithSole [.Subscript (.Name x p) b p2] a pos.line X.env = pure false := by rfl) (hw : swappedStores [.Subscript (.Name x p) b p2] a X.env = pure none := by rfl)
    (h1 : (assignEach [.Subscript (.Name x p) b p2] X.env).map (·.2) = [assign (.Subscript (.Name x p) b p2) X.env] := by rfl)
    (h3 : ∀ v, assign (.Subscript (.Name x p) b p2) X.env v = (do
      let ov ← holding [v] (eval (.Name x p) X.env)
      let iv ← holding [v, ov] (eval b X.env)
      standAt p2
      holding [v, ov, iv] (setItem ov iv v)
      release [v, ov, iv] []) := by intro _; rfl) :
    SS X W B (.Assign [.Subscript (.Name x p) b p2] a pos) (mSetC i mi ma) := ps_mono (ps_seti C i ha hi h hx hd hcd hs hw h1 h3) fun D σ H => tS_setC
end
end TL
end

section
set_option Elab.async false
set_option linter.all false
set_option maxRecDepth 100000
set_option maxHeartbeats 1000000
namespace TL
open PySem PySem.Spec PyProof.Rows L2

section
variable {X : Cx} {W : WX} {B : Bs} {N Nv G : List Str} {ls : List Nat} {P : Pg} {k : Nat} {M : Md} {own own' : Addr → Option Nat} {F F' F1 F2 Fs Fs' : Addr → Prop} {γ γ' γ1 γ2 : List Addr} {H H' H0 H1 H2 Hs Hs' : Hp} {env env' : En} {σ σ' : L2.St} {S S' S1 : Sto} {r : Vl} {u : V} {Q : VK} {D : Ends}
variable {a b c e : Expr} {es : List Expr} {ma mb mc : ME} {mr : MA} {mt mu : MT} {pos : Pos} {st : Stmt} {sts : List Stmt} {m m' : MS}

/-! ### targets -/
abbrev Tg := En → PyData → Option En
/-- a pair that zip or enumerate has made -/
def PairR (K : PySem.W.Frag) (F : Addr → Prop) (H : Hp) (d : PyData) (v : V) : Prop := ∃ T a b da db, v = .ref T ∧ H T = some (.tup [a, b]) ∧ d = .tuple [da, db] ∧ Rp K F H da a ∧ Rp K F H db b
def RpI (p : Bool) (K : PySem.W.Frag) (F : Addr → Prop) (H : Hp) (d : PyData) (v : V) : Prop := if p then PairR K F H d v else Rp K F H d v
def tG (p : Bool) (M : Md) (f : Tg) (is : List Nat) : TG := fun v σ H Q => ∃ d own F γ env S env', ER M own F γ H env σ S ∧ RpI p M.K F H d v ∧ f env d = some env' ∧
  ∀ σ', ER M own F γ H env' σ' S → (∀ vs : List Nat, (∀ i ∈ is, i ∈ vs) → wipe σ' vs = wipe σ vs) → Q σ' H
def EGt (p : Bool) (X : Cx) (tg : Expr) (f : Tg) (is : List Nat) : Prop := PG X tg (tG p (md X) f is)
theorem pg_mono {tg : Expr} {g g' : TG} (h : PG X tg g) (w : ∀ v σ H Q, g' v σ H Q → g v σ H Q) : PG X tg g' := ⟨fun pins s σ H v u Q I r q => h.run pins s σ H v u Q I r (w v σ H Q q)⟩
theorem ER.putF {i : Nat} {d : PyData} {v : V} (er : ER M own F γ H env σ S) (hi : i < env.length) (h : Rp M.K F H d v) : ER M own F γ H (env.set i (.fr d)) (σ.set i (some v)) S := by
  refine ⟨by simp [er.len], fun j s' o q1 q2 => ?_, er.own, er.c⟩
  by_cases e : j = i
  · subst e
    rw [List.getElem?_set_self hi] at q1
    rw [List.getElem?_set_self (by rw [← er.len]; exact hi)] at q2
    cases q1; cases q2
    exact ⟨v, rfl, h⟩
  · rw [List.getElem?_set_ne (Ne.symm e)] at q1 q2
    exact er.slot j s' o q1 q2
theorem wipe_get {σ : L2.St} : ∀ {vs : List Nat} {i : Nat}, i ∈ vs → i < σ.length → (wipe σ vs)[i]? = some none
  | v :: vs, i, h, hl => by
    show ((wipe σ vs).set v none)[i]? = _
    by_cases e : i = v
    · subst e
      rw [List.getElem?_set_self (by rw [wipe_length]; exact hl)]
    · rw [List.getElem?_set_ne (Ne.symm e)]
      exact wipe_get ((List.mem_cons.mp h).resolve_left e) hl
theorem wipe_set {σ : L2.St} {i : Nat} {o : Option V} : ∀ {vs : List Nat}, i ∈ vs → wipe (σ.set i o) vs = wipe σ vs
  | v :: vs, h => by
    show (wipe (σ.set i o) vs).set v none = (wipe σ vs).set v none
    by_cases e : i ∈ vs
    · rw [wipe_set e]
    · have ei : i = v := (List.mem_cons.mp h).resolve_right e
      subst ei
      have key : ∀ (vs : List Nat) (τ : L2.St), (wipe (τ.set i o) vs).set i none = (wipe τ vs).set i none := fun vs => by
        induction vs with
        | nil => intro τ; exact List.set_set ..
        | cons w ws ih =>
          intro τ
          show ((wipe (τ.set i o) ws).set w none).set i none = ((wipe τ ws).set w none).set i none
          by_cases ew : w = i
          · subst ew; rw [List.set_set, List.set_set, ih τ]
          · rw [List.set_comm _ _ ew, ih τ, ← List.set_comm _ _ ew]
      exact key vs σ
def tgN (i : Nat) : Tg := fun env d => if i < env.length then some (env.set i (.fr d)) else none
theorem g_name (C : Ct P W N Nv G ls k X) (i : Nat) {x : Str} (h : N[i]? = some x := by rfl) (hl : i ∈ ls := by decide) : EGt false X (.Name x pos) (tgN i) [i] :=
  pg_mono (pg_name (by rw [C.hN]; exact C.nd) (by rw [C.hN]; exact h) (C.loc i hl x h).1 (C.loc i hl x h).2) fun v σ H Q ⟨d, own, F, γ, env, S, env', er, hr, hf, q⟩ => by
    unfold tgN at hf
    by_cases hi : i < env.length
    · rw [if_pos hi] at hf
      cases hf
      exact q _ (er.putF hi hr) fun vs hv => wipe_set (hv i (by simp))
    · rw [if_neg hi] at hf; cases hf
/-- a tuple of targets -/
abbrev Tgs := En → List PyData → Option En
def tGs (M : Md) (f : Tgs) (is : List Nat) : TGs := fun vs σ H Q => ∃ ds own F γ env S env', ER M own F γ H env σ S ∧ RpAll M.K F H ds vs ∧ f env ds = some env' ∧
  ∀ σ', ER M own F γ H env' σ' S → (∀ ws : List Nat, (∀ i ∈ is, i ∈ ws) → wipe σ' ws = wipe σ ws) → Q σ' H
def EGs (X : Cx) (ts : List Expr) (f : Tgs) (is : List Nat) : Prop := PGs X ts (tGs (md X) f is)
theorem pgs_mono {ts : List Expr} {g g' : TGs} (h : PGs X ts g) (w : ∀ v σ H Q, g' v σ H Q → g v σ H Q) : PGs X ts g' := ⟨fun pins s σ H v u Q I r q => h.run pins s σ H v u Q I r (w v σ H Q q)⟩
def tgNil : Tgs := fun env ds => match ds with
  | [] => some env
  | _ => none
def tgCons (f : Tg) (fs : Tgs) : Tgs := fun env ds => match ds with
  | d :: r => (f env d).bind fun env' => fs env' r
  | [] => none
theorem g_nil : EGs X [] tgNil [] := pgs_mono pgs_nil fun vs σ H Q ⟨ds, own, F, γ, env, S, env', er, hr, hf, q⟩ => by
  cases ds with
  | nil => cases hf; simp only [RpAll] at hr; exact ⟨hr, q σ er fun _ _ => rfl⟩
  | cons d r => cases hf
theorem g_cons {f : Tg} {fs : Tgs} {is js : List Nat} (h1 : EGt false X e f is) (h2 : EGs X es fs js) (hs : (assignEach (e :: es) X.env).map (·.2) = assign e X.env :: (assignEach es X.env).map (·.2) := by rfl) : EGs X (e :: es) (tgCons f fs) (is ++ js) :=
  pgs_mono (pgs_cons h1 h2 hs) fun vs σ H Q ⟨ds, own, F, γ, env, S, env', er, hr, hf, q⟩ => by
    cases ds with
    | nil => cases hf
    | cons d r =>
      simp only [RpAll] at hr
      obtain ⟨v, vr, rfl, h3, h4⟩ := hr
      obtain ⟨env1, e1, e2⟩ := Option.bind_eq_some_iff.mp hf
      refine ⟨v, vr, rfl, d, own, F, γ, env, S, env1, er, h3, e1, fun σ1 er1 w1 => ⟨r, own, F, γ, env1, S, env', er1, h4, e2, fun σ2 er2 w2 => q σ2 er2 fun ws hw => ?_⟩⟩
      rw [w2 ws fun i hi => hw i (List.mem_append_right _ hi), w1 ws fun i hi => hw i (List.mem_append_left _ hi)]
def tgT (fs : Tgs) : Tg := fun env d => match d with
  | .tuple ds => fs env ds
  | _ => none
theorem tgs_len {fs : Tgs} {n : Nat} (h : ∀ env ds env', fs env ds = some env' → ds.length = n) : True := trivial
/-- the number of targets -/
structure TgLen (fs : Tgs) (n : Nat) : Prop where
  l : ∀ env ds env', fs env ds = some env' → ds.length = n
theorem tgl_nil : TgLen tgNil 0 := ⟨fun env ds env' h => by cases ds with
  | nil => rfl
  | cons d r => cases h⟩
theorem tgl_cons {f : Tg} {fs : Tgs} {n : Nat} (h : TgLen fs n) : TgLen (tgCons f fs) (n + 1) := ⟨fun env ds env' q => by cases ds with
  | nil => cases q
  | cons d r =>
    obtain ⟨env1, e1, e2⟩ := Option.bind_eq_some_iff.mp q
    rw [List.length_cons, h.l _ _ _ e2]⟩
theorem g_tup (hc : X.calm = true) {kk n : Nat} {p : Bool} {fs : Tgs} {is : List Nat} (h : EGs X es fs is) (hl : TgLen fs n) (hn : (assignEach es X.env).length = n := by rfl) (hst : (assignEach es X.env).findIdx? (·.1) = none := by rfl) : EGt p X (.Tuple es kk pos) (tgT fs) is :=
  pg_mono (pg_tup hc h hn hst) fun v σ H Q ⟨d, own, F, γ, env, S, env', er, hr, hf, q⟩ => by
    unfold tgT at hf
    split at hf
    · rename_i ds
      cases p with
      | false =>
        have hr : Rp _ F H (.tuple ds) v := hr
        simp only [Rp] at hr
        obtain ⟨p, xs, rfl, h1, h2⟩ := hr
        exact ⟨p, xs, rfl, h1.t, by rw [← RpAll.length h2, hl.l _ _ _ hf], ds, own, F, γ, env, S, env', er, h2, hf, q⟩
      | true =>
        obtain ⟨T, a, b, da, db, rfl, h1, e, h2, h3⟩ := hr
        cases e
        exact ⟨T, [a, b], rfl, .inl (.inl h1), by rw [← hl.l _ _ _ hf]; rfl, [da, db], own, F, γ, env, S, env', er, .cons h2 (.one h3), hf, q⟩
    · cases hf

/-! ### what is walked -/
abbrev MI := En → Sto → Res (List PyData)
/-- an item has come -/
def YOk (p : Bool) (K : PySem.W.Frag) (F : Addr → Prop) (d : PyData) (H1 : Hp) (x : V) (H2 : Hp) : Prop :=
  if p then ∃ T a b da db, x = .ref T ∧ H1 T = none ∧ H2 = upd H1 T (.tup [a, b]) ∧ d = .tuple [da, db] ∧ Rp K F H1 da a ∧ Rp K F H1 db b else H2 = H1 ∧ Rp K F H1 d x
structure ItOk (p : Bool) (K : PySem.W.Frag) (F : Addr → Prop) (H : Hp) (J : It) (ds : List PyData) : Prop where
  goes : ∀ i F' H', i < ds.length → Mo F H F' H' → J.go i H'
  stops : ∀ F' H', Mo F H F' H' → J.stop ds.length H'
  yields : ∀ i F' H1 x H2, i < ds.length → Mo F H F' H1 → J.yld i H1 x H2 → ∃ d, ds[i]? = some d ∧ YOk p K F' d H1 x H2
theorem itOk {p : Bool} {K : PySem.W.Frag} {J : It} {ds : List PyData} {n : Nat} {Gd : Hp → Prop} {Y : Nat → Hp → V → Hp → Prop} (w : Walk J n Gd Y) (hn : ds.length = n) (hG : ∀ F' H', Mo F H F' H' → Gd H')
    (hY : ∀ i F' H1 x H2, i < n → Mo F H F' H1 → Y i H1 x H2 → ∃ d, ds[i]? = some d ∧ YOk p K F' d H1 x H2) : ItOk p K F H J ds :=
  ⟨fun i F' H' hi mo => w.goes i H' (hn ▸ hi) (hG F' H' mo), fun F' H' mo => hn ▸ w.stops H' (hG F' H' mo), fun i F' H1 x H2 hi mo y => hY i F' H1 x H2 (hn ▸ hi) mo (w.yields i H1 x H2 (hn ▸ hi) (hG F' H1 mo) y)⟩
def tI (p : Bool) (M : Md) (W : WX) (mi : MI) : TI := fun σ H R => ∃ own F γ env S, ER M own F γ H env σ S ∧ KG M W own F γ H env σ (mi env S) fun ds F' γ' H' _ => ∀ J, ItOk p M.K F' H' J ds → R J H'
def EI (p : Bool) (X : Cx) (W : WX) (tg iter : Expr) (mi : MI) : Prop := X.calm = true → PI X tg iter (tI p (md X) W mi)
def EIH (X : Cx) (W : WX) (tg iter : Expr) (mi : MI) : Prop := L2H.HotC X → L2H.PIH X tg iter (tI false (md X) W mi)
theorem rp_get {K : PySem.W.Frag} {ds : List PyData} {vs : List V} (h : RpAll K F H ds vs) {i : Nat} {x : V} (e : vs[i]? = some x) : ∃ d, ds[i]? = some d ∧ Rp K F H d x := by
  have hi : i < ds.length := by rw [RpAll.length h]; exact (List.getElem?_eq_some_iff.mp e).1
  obtain ⟨v, hv, hr⟩ := h.get (List.getElem?_eq_getElem hi)
  rw [e] at hv
  cases hv
  exact ⟨_, List.getElem?_eq_getElem hi, hr⟩
theorem it_tup {K : PySem.W.Frag} {p : Addr} {ds : List PyData} {xs : List V} (h1 : SqT1 K H p xs) (h2 : RpAll K F H ds xs) : ItOk false K F H (Itt K p) ds :=
  itOk (walk_tup (xs := xs)) (RpAll.length h2) (fun F' H' mo => (mo.sqT h1).t) fun i F' H1 x H2 hi mo y => by
    obtain ⟨d, hd, hr⟩ := rp_get (RpAll.mono mo ds xs h2) y.2
    exact ⟨d, hd, ⟨y.1, hr⟩⟩
theorem it_lst {K : PySem.W.Frag} {p : Addr} {ds : List PyData} {xs : List V} (f : F p) (h1 : H p = some (.lst xs)) (h2 : RpAll K F H ds xs) : ItOk false K F H (Itl K p) ds :=
  itOk (walk_list (xs := xs)) (RpAll.length h2) (fun F' H' mo => .inl (.inl (mo.keepF p _ h1 f))) fun i F' H1 x H2 hi mo y => by
    obtain ⟨d, hd, hr⟩ := rp_get (RpAll.mono mo ds xs h2) y.2
    exact ⟨d, hd, ⟨y.1, hr⟩⟩
theorem it_sc {K : PySem.W.Frag} {p : Addr} {ns : List Int} (h1 : SqS K H p (ns.map .int)) : ItOk false K F H (Itl K p) (ns.map .int) :=
  itOk (walk_list (xs := ns.map .int)) (by simp) (fun F' H' mo => (mo.sc h1).l) fun i F' H1 x H2 hi mo y => by
    have e := y.2
    rw [List.getElem?_map] at e
    obtain ⟨n, hn, rfl⟩ := Option.map_eq_some_iff.mp e
    exact ⟨.int n, by rw [List.getElem?_map, hn]; rfl, ⟨y.1, by simp [Rp]⟩⟩
theorem it_rng {K : PySem.W.Frag} {lo : Int} {n : Nat} : ItOk false K F H (Itr lo n) ((List.range n).map fun i => .int (lo + (i : Nat))) :=
  itOk walk_range (by simp) (fun _ _ _ => trivial) fun i F' H1 x H2 hi mo y => ⟨.int (lo + (i : Nat)), by simp [hi], ⟨y.1, by have := y.2; subst this; simp [Rp]⟩⟩
/-- a list, a tuple, the script: as an expression's value -/
def vItems : Vl → Option (List PyData)
  | .fr (.list ds) => some ds
  | .fr (.tuple ds) => some ds
  | .ow (.list ds) => some ds
  | .sc ns => some (ns.map .int)
  | _ => none
def mItems (ma : ME) : MI := fun env S => (ma env S).bind fun x S1 => match vItems x with
  | some ds => .ok ds S1
  | none => .stuck
def iSeq (K : PySem.W.Frag) (t : TE) : TI := fun σ H R => t σ H fun x H1 => ∃ p, x = .ref p ∧ (((∃ xs, SqL K H1 p xs) ∧ R (Itl K p) H1) ∨ ((∃ xs, SqT K H1 p xs) ∧ R (Itt K p) H1))
theorem pi_seq {tg : Expr} {t : TE} (h : PE X a t) : PI X tg a (iSeq X.K t) := by
  refine ⟨fun pins s σ H R I q => ?_⟩
  refine thn (h.run pins s σ H _ I q) fun v s1 ⟨x, H1, I1, r1, p, ep, q1⟩ => ?_
  subst ep
  cases r1
  rcases q1 with ⟨⟨xs, hq⟩, q1⟩ | ⟨⟨xs, hq⟩, q1⟩
  · obtain ⟨its, rv, pl, hz⟩ := I1.list hq
    refine wpAny_pyIter_list pl.isList ⟨s1.heap.objs.size, [s1.heap.objs.size], _, _, H1, rfl, I1.kept (t' := s1.toks) fun b o e => Heap.get?_push_of_some _ e, turn_list p _, ⟨_, Heap.get?_push_size _ rfl, rfl, rfl⟩, fun b hb => ?_, q1⟩
    rw [List.mem_singleton.mp hb]
    exact I1.fpOk (Nat.le_refl _) (I1.hok.fresh (Nat.le_refl _))
  · obtain ⟨its, rv, pl, hz⟩ := I1.tuple hq
    refine wpAny_pyIter_tuple (show s1.heap.IsTuple p its.toArray from pl) ⟨s1.heap.objs.size, [s1.heap.objs.size], _, _, H1, rfl, I1.kept (t' := s1.toks) fun b o e => Heap.get?_push_of_some _ e, turn_tuple p _, ⟨_, Heap.get?_push_size _ rfl, rfl, rfl⟩, fun b hb => ?_, q1⟩
    rw [List.mem_singleton.mp hb]
    exact I1.fpOk (Nat.le_refl _) (I1.hok.fresh (Nat.le_refl _))
theorem tI_items (h : tI false M W (mItems ma) σ H R) : tE M W ma σ H fun x H1 => (∃ p xs, x = .ref p ∧ SqT M.K H1 p xs ∧ R (Itt M.K p) H1) ∨ ∃ p xs, x = .ref p ∧ SqL M.K H1 p xs ∧ R (Itl M.K p) H1 := by
  obtain ⟨own, F, γ, env, S, er, q⟩ := h
  refine ⟨own, F, γ, env, S, er, KE_mono (KG_bindE .refl q) ?_⟩
  rintro u H1 ⟨F1, γ1, S1, x, _, g1, er1, v1, _, q1⟩
  cases ho : vItems x with
  | none => rw [ho] at q1; exact q1.elim
  | some ds =>
    rw [ho] at q1
    unfold vItems at ho
    split at ho
    · cases ho
      obtain ⟨p, xs, rfl, h1, h2⟩ := v1.lst rfl
      have v1 : Rp _ _ _ _ _ := v1
      simp only [Rp] at v1
      obtain ⟨p', xs', e1, ⟨f, _⟩, _⟩ := v1
      cases e1
      exact .inr ⟨p, xs, rfl, .inl (.inl h1), q1 F1 γ1 H1 g1 er1 _ (it_lst f h1 h2)⟩
    · cases ho
      obtain ⟨p, xs, rfl, h1, h2⟩ := v1.tup rfl
      exact .inl ⟨p, xs, rfl, h1.t, q1 F1 γ1 H1 g1 er1 _ (it_tup h1 h2)⟩
    · cases ho
      obtain ⟨F3, m3, er3, rp, hfr⟩ := er1.freeze v1 rfl (fun _ _ z => nomatch z)
      simp only [Rp] at rp
      obtain ⟨p, xs, rfl, ⟨f, h1⟩, h2⟩ := rp
      exact .inr ⟨p, xs, rfl, .inl (.inl h1), q1 F3 γ1 H1 (g1.frz m3 hfr) er3 _ (it_lst f h1 h2)⟩
    · cases ho
      obtain ⟨p, rfl, h1⟩ := v1
      exact .inr ⟨p, _, rfl, h1.l, q1 F1 γ1 H1 g1 er1 _ (it_sc h1)⟩
    · cases ho
theorem pi_mono {tg iter : Expr} {t t' : TI} (h : PI X tg iter t) (w : ∀ σ H R, t' σ H R → t σ H R) : PI X tg iter t' := ⟨fun pins s σ H R I q => h.run pins s σ H R I (w σ H R q)⟩
theorem pih_mono {tg iter : Expr} {t t' : TI} (h : L2H.PIH X tg iter t) (w : ∀ σ H R, t' σ H R → t σ H R) : L2H.PIH X tg iter t' := ⟨fun pins s σ H R I q => h.run pins s σ H R I (w σ H R q)⟩
theorem te_mono {Q' : VK} (h : tE M W ma σ H Q) (w : ∀ x H', Q x H' → Q' x H') : tE M W ma σ H Q' := by
  obtain ⟨own, F, γ, env, S, er, q⟩ := h
  exact ⟨own, F, γ, env, S, er, KE_mono q w⟩
theorem i_val {tg : Expr} (ha : ES X W a ma) : EI false X W tg a (mItems ma) := fun _ => pi_mono (pi_seq ha) fun σ H R h => te_mono (tI_items h) fun x H' q => by
  rcases q with ⟨p, xs, e, h1, h2⟩ | ⟨p, xs, e, h1, h2⟩
  · exact ⟨p, e, .inr ⟨⟨xs, h1⟩, h2⟩⟩
  · exact ⟨p, e, .inl ⟨⟨xs, h1⟩, h2⟩⟩
/-- range -/
def rngL (lo hi : Int) : List PyData := (List.range (hi - lo).toNat).map fun i => .int (lo + (i : Nat))
def okR (i : Int) : Bool := decide (i.natAbs < 4611686018427387904)
def vRng : List Vl → Option (List PyData)
  | [x] => match x.dat with
    | some (.int j) => if okR j then some (rngL 0 j) else none
    | _ => none
  | [x, y] => match x.dat, y.dat with
    | some (.int i), some (.int j) => if okR i && okR j then some (rngL i j) else none
    | _, _ => none
  | _ => none
def mRng (mr : MA) : MI := fun env S => (mr env S).bind fun xs S1 => match vRng xs with
  | some ds => .ok ds S1
  | none => .stuck
theorem okR_iff {i : Int} (h : okR i = true) : -(2 ^ 62) ≤ i ∧ i < 2 ^ 62 := by
  have h : i.natAbs < 4611686018427387904 := of_decide_eq_true h
  omega
theorem tI_rng {R : It → Hp → Prop} (h : tI false M W (mRng mr) σ H R) : tA M W mr σ H fun vs H1 => (∃ j : Int, vs = [.int j] ∧ -(2 ^ 62) ≤ j ∧ j < 2 ^ 62 ∧ R (Itr 0 j.toNat) H1) ∨
    ∃ i j : Int, vs = [.int i, .int j] ∧ (-(2 ^ 62) ≤ i ∧ i < 2 ^ 62 ∧ -(2 ^ 62) ≤ j ∧ j < 2 ^ 62) ∧ R (Itr i (j - i).toNat) H1 := by
  obtain ⟨own, F, γ, env, S, er, q⟩ := h
  refine ⟨own, F, γ, env, S, er, KG_mono (KG_bindA .refl q) ?_⟩
  intro rs F' γ' H' S' e' er' q2 us vs
  obtain ⟨F2, γ2, S2, rs2, e2, g2, er2, p2, p3, q3⟩ := q2 us vs
  cases ho : vRng rs2 with
  | none => rw [ho] at q3; exact q3.elim
  | some ds =>
    rw [ho] at q3
    unfold vRng at ho
    split at ho
    · rename_i x
      split at ho
      · rename_i j hj
        by_cases hk : okR j = true
        · rw [if_pos hk] at ho
          cases ho
          obtain ⟨u, rfl, v1⟩ := paired1 p2
          obtain ⟨h1, h2⟩ := okR_iff hk
          refine .inl ⟨j, by rw [v1.int hj], h1, h2, ?_⟩
          have := q3 F2 γ2 _ g2 er2 (Itr 0 (j - 0).toNat) it_rng
          simpa using this
        · rw [if_neg hk] at ho; cases ho
      · cases ho
    · rename_i x y
      split at ho
      · rename_i i j hi hj
        by_cases hk : (okR i && okR j) = true
        · rw [if_pos hk] at ho
          cases ho
          obtain ⟨u, v, rfl, v1, v2⟩ := paired2 p2
          obtain ⟨k1, k2⟩ := Bool.and_eq_true_iff.mp hk
          obtain ⟨h1, h2⟩ := okR_iff k1
          obtain ⟨h3, h4⟩ := okR_iff k2
          exact .inr ⟨i, j, by rw [v1.int hi, v2.int hj], ⟨h1, h2, h3, h4⟩, q3 F2 γ2 _ g2 er2 _ it_rng⟩
        · rw [if_neg hk] at ho; cases ho
      · cases ho
    · cases ho
theorem ta_mono {Q Q' : List V → Hp → Prop} (h : tA M W mr σ H Q) (w : ∀ x H', Q x H' → Q' x H') : tA M W mr σ H Q' := by
  obtain ⟨own, F, γ, env, S, er, q⟩ := h
  exact ⟨own, F, γ, env, S, er, KG_mono q fun rs F' γ' H' S' e' er' q2 us vs => w _ _ (q2 us vs)⟩
def mR1 (ma : ME) : MI := mRng (mCons ma mNil)
def mR2 (ma mb : ME) : MI := mRng (mCons ma (mCons mb mNil))
theorem ka_len {mr : MA} (h : tA M W mr σ H Q') : True := trivial
theorem i_rng1 (C : Ct P W N Nv G ls k X) {tg : Expr} {p pos' : Pos} (i : Nat) (hm : X.mg "range" = none) (ha : ES X W a ma) (hg : G[i]? = some "range" := by rfl) (hs : starEach [a] X.env = [(false, eval a X.env)] := by rfl) : EI false X W tg (.Call (.Name "range" p) [a] [] pos') (mR1 ma) := fun _ =>
  pi_mono (pi_range1 (C.glo i "range" hg) hm (s_acons ha s_anil hs) hs) fun σ H R h => by
    obtain ⟨own, F, γ, env, S, er, q⟩ := tI_rng h
    refine ⟨own, F, γ, env, S, er, ?_⟩
    revert q
    unfold mCons mNil
    cases ma env S with
    | stuck => exact fun q => q
    | exc e S1 => exact fun q => q
    | ok x S1 =>
      intro q F' γ' H' e' er' us vs
      have q := q F' γ' H' e' er' us vs
      obtain ⟨u, rfl, _⟩ := paired1 vs
      rcases q with q | ⟨i, j, z, _⟩
      · exact q
      · cases z
theorem i_rng2 (C : Ct P W N Nv G ls k X) {tg : Expr} {p pos' : Pos} (i : Nat) (hm : X.mg "range" = none) (ha : ES X W a ma) (hb : ES X W b mb) (hg : G[i]? = some "range" := by rfl) (hs : starEach [a, b] X.env = [(false, eval a X.env), (false, eval b X.env)] := by rfl) (hs2 : starEach [b] X.env = [(false, eval b X.env)] := by rfl) :
    EI false X W tg (.Call (.Name "range" p) [a, b] [] pos') (mR2 ma mb) := fun _ =>
  pi_mono (pi_range2 (C.glo i "range" hg) hm (s_acons ha (s_acons hb s_anil hs2) (by rw [hs, hs2])) hs hs2) fun σ H R h => by
    obtain ⟨own, F, γ, env, S, er, q⟩ := tI_rng h
    refine ⟨own, F, γ, env, S, er, ?_⟩
    revert q
    unfold mCons mNil
    cases ma env S with
    | stuck => exact fun q => q
    | exc e S1 => exact fun q => q
    | ok x S1 =>
      show KG (md X) W own F γ H env σ (Res.bind (Res.bind (mb env S1) _) _) _ → KG (md X) W own F γ H env σ (Res.bind (Res.bind (mb env S1) _) _) _
      cases mb env S1 with
      | stuck => exact fun q => q
      | exc e S2 => exact fun q => q
      | ok y S2 =>
        intro q F' γ' H' e' er' us vs
        have q := q F' γ' H' e' er' us vs
        obtain ⟨u, v, rfl, _, _⟩ := paired2 vs
        rcases q with ⟨j, z, _⟩ | q
        · cases z
        · exact q
theorem i_rng1H (C : Ct P W N Nv G ls k X) {tg : Expr} {p pos' : Pos} (i : Nat) (hm : X.mg "range" = none) (ha : ES X W a ma) (hg : G[i]? = some "range" := by rfl) (hs : starEach [a] X.env = [(false, eval a X.env)] := by rfl) : EIH X W tg (.Call (.Name "range" p) [a] [] pos') (mR1 ma) := fun _ =>
  pih_mono (L2H.pi_range1H (C.glo i "range" hg) hm (s_acons ha s_anil hs) hs) fun σ H R h => by
    obtain ⟨own, F, γ, env, S, er, q⟩ := tI_rng h
    refine ⟨own, F, γ, env, S, er, ?_⟩
    revert q
    unfold mCons mNil
    cases ma env S with
    | stuck => exact fun q => q
    | exc e S1 => exact fun q => q
    | ok x S1 =>
      intro q F' γ' H' e' er' us vs
      have q := q F' γ' H' e' er' us vs
      obtain ⟨u, rfl, _⟩ := paired1 vs
      rcases q with q | ⟨i, j, z, _⟩
      · exact q
      · cases z
/-! ### zip, enumerate -/
def zipL : List PyData → List PyData → List PyData
  | a :: as, b :: bs => .tuple [a, b] :: zipL as bs
  | _, _ => []
theorem zipL_get : ∀ {as bs : List PyData} {i : Nat} {a b : PyData}, as[i]? = some a → bs[i]? = some b → (zipL as bs)[i]? = some (.tuple [a, b])
  | a' :: as, b' :: bs, 0, a, b, h1, h2 => by simp at h1 h2; subst h1; subst h2; rfl
  | a' :: as, b' :: bs, i + 1, a, b, h1, h2 => by simpa [zipL] using zipL_get (by simpa using h1) (by simpa using h2)
  | [], _, i, a, b, h1, _ => by simp at h1
  | _ :: _, [], i, a, b, _, h2 => by simp at h2
theorem zipL_len : ∀ (as bs : List PyData), (zipL as bs).length = min as.length bs.length
  | [], bs => by simp [zipL]
  | _ :: _, [] => by simp [zipL]
  | a :: as, b :: bs => by simp only [zipL, List.length_cons, zipL_len as bs]; omega
end
end TL
end

section
set_option Elab.async false
set_option linter.all false
set_option maxRecDepth 100000
set_option maxHeartbeats 1000000
namespace TL
open PySem PySem.Spec PyProof.Rows L2 HotX

section
variable {prog : Program} {w : World} {A : Around} {E : Value → Shared → Prop} {s : Shared}
theorem pyNext_tuple_end_hot {it t x1 : Addr} {i : Nat} {items : Array Value} {Q : Option Value → Shared → Prop} (hot : HotAt A x1 s.heap) (hne : x1 ≠ it)
    (hit : s.heap.IsTupleIter it t i) (ht : s.heap.IsTuple t items) (hx : items[i]? = none)
    (hQ : ∀ h', (∀ b o, b ≠ it → s.heap.get? b = some o → h'.get? b = some o) → Q none { s with heap := h' }) : wpAny (model prog w) A (pyNext (.ref it)) Q E s := by
  obtain ⟨o, ho, hc, hd⟩ := id hit
  obtain ⟨ol, hol, _, nl, hdl⟩ := ht
  obtain ⟨hh, o1, vs1, h1, d1, c1⟩ := hot
  unfold pyNext
  refine wpAny_bind (wpAny_attempt (wpAny_callSpecial?_slot (name := Str.ofString "__next__") hit.typeIs F.slot_tuple_iterator_next
    (wpAny_call_entry F.slot_tuple_iterator_next hit.typeIs F.entry_tuple_iterator_next ?_ (F.args_tuple_iterator_next_1 _))))
  show wpAny _ _ (field (.ref it) 0 >>= _) _ _ s
  refine wpAny_bind (wpAny_field ho hd (x := .ref t) rfl ?_)
  show wpAny _ _ (if (Value.ref t == Value.none) = true then _ else _) _ _ s
  rw [if_neg (show ¬ ((Value.ref t == Value.none) = true) from Bool.false_ne_true)]
  show wpAny _ _ (field (.ref it) 1 >>= _) _ _ s
  refine wpAny_bind (wpAny_field ho hd (x := .int i 0) rfl ?_)
  show wpAny _ _ (seqItems? (.ref t) >>= _) _ _ s
  refine wpAny_bind (wpAny_seqItems hol hdl ?_)
  simp only [Int.toNat_natCast, hx]
  refine wpAny_bind (wpAny_rule (wpAny_bind (wpAny_setField ho hd (by simp) ?_)))
  show wpAny _ _ (newExc (.type "StopIteration") [] >>= _) _ _ _
  refine wpAny_bind ?_
  simp only [newExc, newTuple]
  refine wpAny_bind (wpAny_newObj_type ?_ (by size_fits))
  refine wpAny_bind (m := firstArgMember _ _) (wpAny_of_eq (a := Value.none) (by first | rfl | (simp only [firstArgMember]; rfl)) ?_)
  refine wpAny_newObj_type ?_ (by size_fits)
  have g1 : ∀ f, (s.heap.update it f).get? x1 = some o1 := fun f => (Heap.get?_update_other s.heap f (Ne.symm hne)).trans h1
  refine raiseNew_hot ⟨hh, o1, vs1, Heap.get?_push_of_some _ (Heap.get?_push_of_some _ (g1 _)), d1, c1⟩ (Nat.ne_of_lt (Heap.lt_size (Heap.get?_push_of_some _ (g1 _)))) (Heap.get?_push_size _ rfl) rfl (by first | (simp; done) | (simp; omega) | (simp only [Array.size_append]; simp; omega)) ?_
  refine wpAny_bind (wpAny_isInstance (T := "StopIteration") (b := true) ⟨_, Heap.get?_update_self _ (Heap.get?_push_size _ rfl) rfl, rfl⟩ isSubtype_stop ?_)
  refine wpAny_pure (hQ _ fun b o nb e => ?_)
  have e2 : ∀ f, (s.heap.update it f).get? b = some o := fun f => (Heap.get?_update_other s.heap f (Ne.symm nb)).trans e
  rw [Heap.get?_update_other _ _ (Nat.ne_of_gt (Heap.lt_size (Heap.get?_push_of_some _ (e2 _))))]
  exact Heap.get?_push_of_some _ (Heap.get?_push_of_some _ (e2 _))
end
theorem turn_tupleH {P : Program} {w : World} {K : PySem.W.Frag} {tg : Expr} (a it : Addr) : L2H.TurnH P w K tg (Itt K a) [it] it (fun i h => h.IsTupleIter it a i) where
  mem := by simp
  obj := (turn_tuple (P := P) (w := w) (K := K) (tg := tg) a it).obj
  keep := (turn_tuple (P := P) (w := w) (K := K) (tg := tg) a it).keep
  item := by
    intro X hP hw hK hc i pins s σ H E I hf st hg
    subst hP hw hK
    obtain ⟨xs, x, hq, hx⟩ := hg
    obtain ⟨its, rv, p, hz⟩ := I.tuple hq
    obtain ⟨u, hu, ru⟩ := rv.get hx
    obtain ⟨f0, f1, f2, f3, f4, f5⟩ := hf it (by simp)
    refine wpAny_pyNext_tuple_item st (show s.heap.IsTuple a its.toArray from p) (x := u) (by simpa using hu) fun h' st' sb => ?_
    have I1 : Inv X pins σ H { s with heap := h' } := I.turned (t' := s.toks) (fun b o hb e => (sb.2 b hb).trans e) f0 f1 f3 f4 f5
    obtain ⟨o, e, c, d⟩ := id st'
    exact ⟨u, rfl, go_of (s := { s with heap := h' }) e c d (by decide) ⟨x, H, I1, ru, ⟨rfl, fun ys hy => by rw [I.tuple_inj hy hq]; exact hx⟩, st', fun b hb => (hf b hb).1⟩⟩
  done := by
    intro X hP hw hK hc i pins s σ H E I hf st hg
    subst hP hw hK
    obtain ⟨xs, hq, hx⟩ := hg
    obtain ⟨its, rv, p, hz⟩ := I.tuple hq
    obtain ⟨f0, f1, f2, f3, f4, f5⟩ := hf it (by simp)
    have hl := rv.length
    obtain ⟨pp, ⟨hh, v1, e1, c1⟩, hp⟩ := hc
    have g := (I.pin pp (List.mem_append_left _ hp)).1
    exact pyNext_tuple_end_hot ⟨hh, pp.2, v1, g, e1, c1⟩ (f5 pp (List.mem_append_left _ hp)) st (show s.heap.IsTuple a its.toArray from p) (by simp; omega) fun h' eb => ⟨rfl, I.turned (t' := s.toks) (fun b o hb e => eb b o hb e) f0 f1 f3 f4 f5⟩
  self := fun _ _ _ _ _ st h => wpAny_pyIter_tupleiter st h

section
variable {X : Cx} {W : WX} {B : Bs} {N Nv G : List Str} {ls : List Nat} {P : Pg} {k : Nat} {M : Md} {own own' : Addr → Option Nat} {F F' F1 F2 Fs Fs' : Addr → Prop} {γ γ' γ1 γ2 : List Addr} {H H' H0 H1 H2 Hs Hs' : Hp} {env env' : En} {σ σ' : L2.St} {S S' S1 : Sto} {r : Vl} {u : V} {Q : VK} {D : Ends}
variable {a b c e : Expr} {es : List Expr} {ma mb mc : ME} {mr : MA} {mt mu : MT} {pos : Pos} {st : Stmt} {sts : List Stmt} {m m' : MS}

theorem pih_tup {tg : Expr} {t : TE} (h : PE X a t) : L2H.PIH X tg a (iTup X.K t) := by
  refine ⟨fun pins s σ H R I q => ?_⟩
  refine thn (h.run pins s σ H _ I q) fun v s1 ⟨x, H1, I1, r1, p, ep, ⟨xs, hq⟩, q1⟩ => ?_
  subst ep
  cases r1
  obtain ⟨its, rv, pl, hz⟩ := I1.tuple hq
  refine wpAny_pyIter_tuple (show s1.heap.IsTuple p its.toArray from pl) ⟨s1.heap.objs.size, [s1.heap.objs.size], _, _, H1, rfl, I1.kept (t' := s1.toks) fun b o e => Heap.get?_push_of_some _ e, turn_tupleH p _, ⟨_, Heap.get?_push_size _ rfl, rfl, rfl⟩, fun b hb => ?_, q1⟩
  rw [List.mem_singleton.mp hb]
  exact I1.fpOk (Nat.le_refl _) (I1.hok.fresh (Nat.le_refl _))
/-- a tuple, and nothing else -/
def vItemsT : Vl → Option (List PyData)
  | .fr (.tuple ds) => some ds
  | _ => none
def mItemsT (ma : ME) : MI := fun env S => (ma env S).bind fun x S1 => match vItemsT x with
  | some ds => .ok ds S1
  | none => .stuck
theorem tI_itemsT {R : It → Hp → Prop} (h : tI false M W (mItemsT ma) σ H R) : iTup M.K (tE M W ma) σ H R := by
  obtain ⟨own, F, γ, env, S, er, q⟩ := h
  refine ⟨own, F, γ, env, S, er, KE_mono (KG_bindE .refl q) ?_⟩
  rintro u H1 ⟨F1, γ1, S1, x, _, g1, er1, v1, _, q1⟩
  cases ho : vItemsT x with
  | none => rw [ho] at q1; exact q1.elim
  | some ds =>
    rw [ho] at q1
    unfold vItemsT at ho
    split at ho
    · cases ho
      obtain ⟨p, xs, rfl, h1, h2⟩ := v1.tup rfl
      exact ⟨p, rfl, ⟨xs, h1.t⟩, q1 F1 γ1 H1 g1 er1 _ (it_tup h1 h2)⟩
    · cases ho
theorem i_valT {tg : Expr} (ha : ES X W a ma) : EI false X W tg a (mItemsT ma) := fun _ => pi_mono (pi_tup ha) fun σ H R => tI_itemsT
theorem i_valTH {tg : Expr} (ha : ES X W a ma) : EIH X W tg a (mItemsT ma) := fun _ => pih_mono (pih_tup ha) fun σ H R => tI_itemsT

/-! ### for -/
def Rs.loop (r : Rs) (f : En → Sto → Rs) : Rs := match r with
  | .nx e S => f e S
  | .ct e S => f e S
  | .bk e S => .nx e S
  | r => r
def goFor (f : Tg) (body : MS) : List PyData → MS
  | [], env, S => .nx env S
  | d :: ds, env, S => match f env d with
    | some env' => (body env' S).loop (goFor f body ds)
    | none => .stuck
def mFor (mi : MI) (f : Tg) (body : MS) : MS := fun env S => (mi env S).toS env fun ds S1 => goFor f body ds env S1
theorem YOk.er {p : Bool} {d : PyData} {x : V} (y : YOk p M.K F d H x H2) (er : ER M own F γ H env σ S) : EG F γ H F γ H2 ∧ ER M own F γ H2 env σ S ∧ RpI p M.K F H2 d x := by
  cases p with
  | false =>
    obtain ⟨rfl, h⟩ := (show H2 = H ∧ Rp M.K F H d x from y)
    exact ⟨.refl, er, h⟩
  | true =>
    obtain ⟨T, a, b, da, db, rfl, h1, rfl, rfl, h2, h3⟩ := y
    exact ⟨EG.new h1, er.new h1, T, a, b, da, db, rfl, upd_same, rfl, Rp.mono (EG.new (γ := γ) h1).toMo da a h2, Rp.mono (EG.new (γ := γ) h1).toMo db b h3⟩
theorem tS_for {p : Bool} {mi : MI} {f : Tg} {is : List Nat} (h : tS M W B (mFor mi f m) D σ H) : tFor (tI p M W mi) (tG p M f is) (tS M W B m) D σ H := by
  obtain ⟨own, F, γ, env, S, s, er, q⟩ := h
  refine ⟨own, F, γ, env, S, er, KE_toS s q fun ds F1 γ1 H1 S1 e1 s1 er1 q1 J hJ => ?_⟩
  refine ⟨fun i n σ' H' => n = ds.length - i ∧ i ≤ ds.length ∧ ∃ own F γ env S, SB B own F γ H' ∧ Mo F1 H1 F H' ∧ ER M own F γ H' env σ' S ∧ KS M W B F H' (goFor f m (ds.drop i) env S) D,
    ⟨_, rfl, Nat.zero_le _, own, F1, γ1, env, S1, s1, .refl, er1, q1⟩, ?_⟩
  rintro i n σ' H' ⟨rfl, hi, own2, F2, γ2, env2, S2, s2, mo2, er2, q2⟩
  by_cases hlt : i < ds.length
  · refine .inr ⟨hJ.goes i F2 H' hlt mo2, fun σ' H' => ∃ own F γ env S, SB B own F γ H' ∧ Mo F1 H1 F H' ∧ ER M own F γ H' env σ' S ∧ KS M W B F H' (goFor f m (ds.drop (i + 1)) env S) D,
      fun σ3 H3 p => ⟨ds.length - (i + 1), by omega, rfl, hlt, p⟩, fun x H3 y => ?_⟩
    obtain ⟨d, hd, yo⟩ := hJ.yields i F2 H' x H3 hlt mo2 y
    obtain ⟨e3, er3, rp⟩ := yo.er er2
    have s3 := s2.step e3
    have q3 := KS_step e3.toMo q2
    obtain ⟨hl, rfl⟩ := List.getElem?_eq_some_iff.mp hd
    rw [List.drop_eq_getElem_cons hl] at q3
    show tG p M f is x σ' H3 _
    unfold goFor at q3
    cases hf : f env2 ds[i] with
    | none => rw [hf] at q3; exact q3.elim
    | some env' =>
      rw [hf] at q3
      dsimp only at q3
      refine ⟨ds[i], own2, F2, γ2, env2, S2, env', er3, rp, hf, fun σ4 er4 _ => ⟨own2, F2, γ2, env', S2, s3, er4, ?_⟩⟩
      have mo3 : Mo F1 H1 F2 H3 := mo2.trans e3.toMo
      cases hb : m env' S2 with
      | nx e S3 => rw [hb] at q3; exact fun own' F' γ' H4 σ5 s5 mo5 er5 => ⟨own', F', γ', e, S3, s5, mo3.trans mo5, er5, KS_step mo5 q3⟩
      | ct e S3 => rw [hb] at q3; exact fun own' F' γ' H4 σ5 s5 mo5 er5 => ⟨own', F', γ', e, S3, s5, mo3.trans mo5, er5, KS_step mo5 q3⟩
      | bk e S3 => rw [hb] at q3; exact q3
      | rt v S3 => rw [hb] at q3; exact q3
      | exc e en S3 => rw [hb] at q3; exact q3
      | stuck => rw [hb] at q3; exact q3
  · have e : i = ds.length := by omega
    subst e
    refine .inl ⟨hJ.stops F2 H' mo2, ?_⟩
    rw [List.drop_length] at q2
    exact q2 own2 F2 γ2 H' σ' s2 .refl er2
theorem q_for (C : Ct P W N Nv G ls k X) (hc : X.calm = true) {p : Bool} {tg iter : Expr} {mi : MI} {f : Tg} {is : List Nat} (hi : EI p X W tg iter mi) (hg : EGt p X tg f is) (hb : SSs X W B sts m) (hs : ∀ x, foldedSetIterable iter X.env x = pure x := by intro _; rfl) :
    SS X W B (.For tg iter sts [] pos) (mFor mi f m) := ps_mono (ps_for C.hp hc (hi hc) hg hb hs) fun D σ H => tS_for
/-- in both modes -/
theorem q_forM (C : Ct P W N Nv G ls k X) {tg iter : Expr} {mi : MI} {f : Tg} {is : List Nat} (hi : EI false X W tg iter mi) (hi2 : EIH X W tg iter mi) (hg : EGt false X tg f is) (hb : SSs X W B sts m) (hs : ∀ x, foldedSetIterable iter X.env x = pure x := by intro _; rfl) :
    SS X W B (.For tg iter sts [] pos) (mFor mi f m) := C.mo.elim (fun hc => ps_mono (ps_for C.hp hc (hi hc) hg hb hs) fun D σ H => tS_for) fun hc => ps_mono (L2H.ps_forH C.hp hc (hi2 hc) hg hb hs) fun D σ H => tS_for

/-! ### while -/
def goWh (mt : MT) (body : MS) : Nat → MS
  | 0, _, _ => .stuck
  | n + 1, env, S => (mt env S).toS env fun k S1 => if k then (body env S1).loop (goWh mt body n) else .nx env S1
open Classical in
noncomputable def mWhile (mt : MT) (body : MS) : MS := fun env S => if h : ∃ n, goWh mt body n env S ≠ .stuck then goWh mt body h.choose env S else .stuck
theorem tS_while (h : tS M W B (mWhile mt m) D σ H) : tWhile (tT M W mt) (tS M W B m) D σ H := by
  obtain ⟨own, F, γ, env, S, s, er, q⟩ := h
  unfold mWhile at q
  by_cases hx : ∃ n, goWh mt m n env S ≠ .stuck
  · rw [dif_pos hx] at q
    generalize hx.choose = n0 at q
    refine ⟨fun n σ' H' => ∃ own F γ env S, SB B own F γ H' ∧ ER M own F γ H' env σ' S ∧ KS M W B F H' (goWh mt m n env S) D, ⟨n0, own, F, γ, env, S, s, er, q⟩, ?_⟩
    rintro n σ' H' ⟨own2, F2, γ2, env2, S2, s2, er2, q2⟩
    cases n with
    | zero => exact q2.elim
    | succ n =>
      refine ⟨own2, F2, γ2, env2, S2, er2, KE_toS s2 q2 fun kb F3 γ3 H3 S3 e3 s3 er3 q3 => ?_⟩
      cases kb with
      | false => exact q3 own2 F3 γ3 H3 σ' s3 .refl er3
      | true =>
        rw [if_pos rfl] at q3
        rw [if_pos rfl]
        refine ⟨fun σ' H' => ∃ own F γ env S, SB B own F γ H' ∧ ER M own F γ H' env σ' S ∧ KS M W B F H' (goWh mt m n env S) D, fun σ4 H4 p => ⟨n, by omega, p⟩, own2, F3, γ3, env2, S3, s3, er3, ?_⟩
        cases hb : m env2 S3 with
        | nx e S3 => rw [hb] at q3; exact fun own' F' γ' H4 σ5 s5 mo5 er5 => ⟨own', F', γ', e, S3, s5, er5, KS_step mo5 q3⟩
        | ct e S3 => rw [hb] at q3; exact fun own' F' γ' H4 σ5 s5 mo5 er5 => ⟨own', F', γ', e, S3, s5, er5, KS_step mo5 q3⟩
        | bk e S3 => rw [hb] at q3; exact q3
        | rt v S3 => rw [hb] at q3; exact q3
        | exc e en S3 => rw [hb] at q3; exact q3
        | stuck => rw [hb] at q3; exact q3
  · rw [dif_neg hx] at q
    exact q.elim
theorem q_while (C : Ct P W N Nv G ls k X) (hc : ET X W c mt) (hb : SSs X W B sts m) : SS X W B (.While c sts [] pos) (mWhile mt m) := ps_mono (ps_while C.hp hc hb) fun D σ H => tS_while
theorem loop_mono {r r' : Rs} {f g : MS} (h : ∀ e S, f e S ≠ .stuck → g e S = f e S) (hr : r.loop f ≠ .stuck) : r.loop g = r.loop f := by
  cases r with
  | nx e S => exact h e S hr
  | ct e S => exact h e S hr
  | _ => rfl
theorem goWh_succ : ∀ n env S, goWh mt m n env S ≠ .stuck → goWh mt m (n + 1) env S = goWh mt m n env S
  | 0, env, S, h => absurd rfl h
  | n + 1, env, S, h => by
    show (mt env S).toS env _ = (mt env S).toS env _
    have h : (mt env S).toS env (fun k S1 => if k then (m env S1).loop (goWh mt m n) else .nx env S1) ≠ .stuck := h
    cases hm : mt env S with
    | stuck => rfl
    | exc e S1 => rfl
    | ok kb S1 =>
      rw [hm] at h
      show (if kb = true then _ else _) = (if kb = true then _ else _)
      have h : (if kb = true then (m env S1).loop (goWh mt m n) else .nx env S1) ≠ .stuck := h
      cases kb with
      | false => rfl
      | true =>
        rw [if_pos rfl] at h
        rw [if_pos rfl, if_pos rfl]
        exact loop_mono (r' := .stuck) (fun e S hh => goWh_succ n e S hh) h
theorem goWh_le {n j : Nat} (h : goWh mt m n env S ≠ .stuck) : goWh mt m (n + j) env S = goWh mt m n env S := by
  induction j with
  | zero => rfl
  | succ j ih => rw [← ih]; exact goWh_succ (n + j) env S (by rw [ih]; exact h)
theorem mWhile_eq {n : Nat} (h : goWh mt m n env S ≠ .stuck) : mWhile mt m env S = goWh mt m n env S := by
  have hx : ∃ n, goWh mt m n env S ≠ .stuck := ⟨n, h⟩
  unfold mWhile
  rw [dif_pos hx]
  have hc := hx.choose_spec
  rcases Nat.le_total n hx.choose with l | l
  · obtain ⟨j, hj⟩ := Nat.exists_eq_add_of_le l
    rw [hj]; exact goWh_le h
  · obtain ⟨j, hj⟩ := Nat.exists_eq_add_of_le l
    rw [hj]; exact (goWh_le hc).symm
end
end TL
end

section
set_option Elab.async false
set_option linter.all false
set_option maxRecDepth 100000
set_option maxHeartbeats 1000000
namespace TL
open PySem PySem.Spec PyProof.Rows L2

section
variable {X : Cx} {W : WX} {B : Bs} {N Nv Nv' G G' : List Str} {ls ls' : List Nat} {P : Pg} {k : Nat} {M : Md} {own own' : Addr → Option Nat} {F F' F1 F2 Fs Fs' : Addr → Prop} {γ γ' γ1 γ2 : List Addr} {H H' H0 H1 H2 Hs Hs' : Hp} {env env' env2 : En} {σ σ' σ2 : L2.St} {S S' S1 : Sto} {r : Vl} {u : V} {Q : VK} {D : Ends}
variable {a b c e : Expr} {es : List Expr} {ma mb mc : ME} {mr : MA} {mt mu : MT} {pos : Pos} {st : Stmt} {sts : List Stmt} {m m' : MS}

/-! ### the context by its scope -/
def visK : Option NameKind → Bool
  | some .local => true
  | some .cell => true
  | some .free => true
  | _ => false
def locK : Option NameKind → Bool
  | some .local => true
  | some .cell => true
  | _ => false
def gloK : Option NameKind → Bool
  | some .globalImplicit => true
  | _ => false
/-- names of the scope that runs; names of the scope that is written -/
def ckS (names wr : List (Str × NameKind)) (N Nv G : List Str) (ls : List Nat) : Bool :=
  (List.range Nv.length).all (fun i => Nv.getD i "" == "" || (decide (N[i]? = some (Nv.getD i "")) && visK (names.lookup (Nv.getD i "")))) && G.all (fun x => gloK (names.lookup x)) &&
    ls.all fun i => match N[i]? with
      | some x => locK (wr.lookup x)
      | none => true
theorem ckS_vis {names wr : List (Str × NameKind)} (h : ckS names wr N Nv G ls = true) {i : Nat} {x : Str} (hx : Nv[i]? = some x) (hn : (x == "") = false) : N[i]? = some x ∧ (names.lookup x = some .local ∨ names.lookup x = some .cell ∨ names.lookup x = some .free) := by
  unfold ckS at h
  simp only [Bool.and_eq_true, List.all_eq_true] at h
  have q := h.1.1 i (List.mem_range.mpr (List.getElem?_eq_some_iff.mp hx).1)
  have e : Nv.getD i "" = x := by rw [List.getD_eq_getElem?_getD, hx]; rfl
  rw [e, hn, Bool.false_or, Bool.and_eq_true, decide_eq_true_eq] at q
  refine ⟨q.1, ?_⟩
  have q2 := q.2
  cases hk : names.lookup x with
  | none => rw [hk] at q2; cases q2
  | some kd => rw [hk] at q2; cases kd <;> first | exact .inl rfl | exact .inr (.inl rfl) | exact .inr (.inr rfl) | cases q2
theorem ckS_glo {names wr : List (Str × NameKind)} (h : ckS names wr N Nv G ls = true) {i : Nat} {x : Str} (hx : G[i]? = some x) : names.lookup x = some .globalImplicit := by
  unfold ckS at h
  simp only [Bool.and_eq_true, List.all_eq_true] at h
  have q := h.1.2 x (List.mem_of_getElem? hx)
  cases hk : names.lookup x with
  | none => rw [hk] at q; cases q
  | some kd => rw [hk] at q; cases kd <;> first | rfl | cases q
theorem ckS_loc {names wr : List (Str × NameKind)} (h : ckS names wr N Nv G ls = true) {i : Nat} (hi : i ∈ ls) {x : Str} (hx : N[i]? = some x) : wr.lookup x = some .local ∨ wr.lookup x = some .cell := by
  unfold ckS at h
  simp only [Bool.and_eq_true, List.all_eq_true] at h
  have q := h.2 i hi
  rw [hx] at q
  dsimp only at q
  cases hk : wr.lookup x with
  | none => rw [hk] at q; cases q
  | some kd => rw [hk] at q; cases kd <;> first | exact .inl rfl | exact .inr rfl | cases q
abbrev W0 : WX := fun _ _ _ _ => False
theorem takes0N {X : Cx} : L2N.Takes X W0 := fun _ _ x => by
  obtain ⟨_, _, _, _, _, _, _, _, _, _, _, _, _, _, _, _, w⟩ := x
  exact w.elim
/-- within a comprehension -/
theorem Ct.blk {scope sc : Scope} (C : Ct P W N Nv G ls k X) (hc : X.calm = true) (hsc : X.env.scope = sc) (h : ckS (relS scope sc).names scope.names N Nv' G' ls' = true) (s : Shared) (H : Hp) (C0 : Addr) (cl : List (Str × Addr)) (fp : List Addr) :
    Ct P W0 N Nv' G' ls' k (X.blk s H scope (compEnvC scope cl C0 X.env) fp) := by
  have e : (X.blk s H scope (compEnvC scope cl C0 X.env) fp).env.scope = relS scope sc := by rw [← hsc]; rfl
  refine ⟨C.pg, C.hN, C.nd, fun i x h1 h2 => ?_, fun i x h1 => ?_, fun i hi x h1 => ?_, takes0N, .inl hc, C.gu, C.rm, PassesOwn.never⟩
  · obtain ⟨q1, q2⟩ := ckS_vis h h1 h2
    exact ⟨q1, by rw [e]; exact q2⟩
  · show (X.blk s H scope (compEnvC scope cl C0 X.env) fp).env.scope.names.lookup x = _
    rw [e]; exact ckS_glo h h1
  · have q := ckS_loc h hi h1
    have kp : ∀ kd, kd ≠ .free → scope.names.lookup x = some kd → (relS scope sc).names.lookup x = some kd := fun kd hk hl => lookup_relS_keep hk hl
    rw [e]
    rcases q with q | q
    · exact ⟨.inl (kp _ (by decide) q), .inr (kp _ (by decide) q)⟩
    · exact ⟨.inr (kp _ (by decide) q), .inl (by show (scope.names.lookup x == some .cell) = true; rw [q]; rfl)⟩

/-! ### comprehensions -/
def wipeE (env : En) : List Nat → En
  | [] => env
  | v :: vs => (wipeE env vs).set v .un
theorem wipeE_length : ∀ vs : List Nat, (wipeE env vs).length = env.length
  | [] => rfl
  | v :: vs => by unfold wipeE; rw [List.length_set, wipeE_length vs]
theorem ER.un {i : Nat} {o : Option V} (er : ER M own F γ H env σ S) : ER M own F γ H (env.set i .un) (σ.set i o) S := by
  refine ⟨by simp [er.len], fun j s' o' q1 q2 => ?_, er.own, er.c⟩
  by_cases e : j = i
  · subst e
    by_cases hi : j < env.length
    · rw [List.getElem?_set_self hi] at q1
      cases q1
      trivial
    · rw [List.getElem?_eq_none (by simp; omega)] at q1; cases q1
  · rw [List.getElem?_set_ne (Ne.symm e)] at q1 q2
    exact er.slot j s' o' q1 q2
theorem ER.wipe (er : ER M own F γ H env σ S) : ∀ vs : List Nat, ER M own F γ H (wipeE env vs) (L2.wipe σ vs) S
  | [] => er
  | v :: vs => (ER.wipe er vs).un
/-- the slots of the start, the cells of the end -/
theorem ER.carry (er : ER M own F γ H env σ S) (g : EG F γ H F' γ' H') (er2 : ER M own F' γ' H' env2 σ2 S') : ER M own F' γ' H' env σ S' :=
  ⟨er.len, fun i s o h1 h2 => (er.slot i s o h1 h2).mono g er.own, er2.own, er2.c⟩
def goLc (f : Tg) (mt : MT) (ma : ME) (env : En) : List PyData → List PyData → Sto → Res (List PyData)
  | [], acc, S => .ok acc S
  | d :: ds, acc, S => match f env d with
    | none => .stuck
    | some env' => match mt env' S with
      | .ok k S1 => if k then (match ma env' S1 with
          | .ok v S2 => match v.frz with
            | some x => if acc.length < 16777216 then goLc f mt ma env ds (acc ++ [x]) S2 else .stuck
            | none => .stuck
          | _ => .stuck) else goLc f mt ma env ds acc S1
      | _ => .stuck
def mLc (mi : MI) (f : Tg) (mt : MT) (ma : ME) (vs : List Nat) : ME := fun env S => (mi env S).bind fun ds S1 => (goLc f mt ma (wipeE env vs) ds [] S1).bind fun acc S2 => .ok (.ow (.list acc)) S2
def ETs (X : Cx) (W : WX) (ifs : List Expr) (m : MT) : Prop := PTs X ifs (tT (md X) W m)
theorem pts_mono {ifs : List Expr} {t t' : TT} (h : PTs X ifs t) (w : ∀ σ H Q, t' σ H Q → t σ H Q) : PTs X ifs t' := ⟨fun pins s σ H Q I q => h.run pins s σ H Q I (w σ H Q q)⟩
def mYes : MT := fun _ S => .ok true S
theorem ts_nil : ETs X W [] mYes := pts_mono pts_nil fun σ H Q ⟨own, F, γ, env, S, er, q⟩ => q F γ H .refl er
theorem ts_one (h : ET X W c mt) : ETs X W [c] mt := pts_one h
/-- an untracked list D is written -/
theorem ER.wrD {p : Addr} {xs : List V} {o : HO} (er : ER M own F γ H env σ S) (hp : H p = some (.lst xs)) (nF : ¬ F p) (no : own p = none) (ng : p ∉ γ) : ER M own F γ (upd H p o) env σ S := by
  have mo : Mo F H F (upd H p o) := Mo.wr hp nF
  refine ⟨er.len, fun j s' o' q1 q2 => (er.slot j s' o' q1 q2).wr mo (fun q hq z => by subst z; rw [no] at hq; cases hq) (fun q fs h z => by subst z; rw [hp] at h; cases h), fun a j q => ⟨(er.own a j q).1, (er.own a j q).2.1, upd_there (er.own a j q).2.2⟩,
    ⟨fun a f => upd_there (er.c.ft a f), er.c.len, er.c.nd, fun a m => ⟨(er.c.nF a m).1, upd_there (er.c.nF a m).2⟩, fun kk ob a h1 h2 => (er.c.cell kk ob a h1 h2).wr mo fun z => ng (z ▸ List.mem_of_getElem? h2)⟩⟩
theorem EG.wrD {p : Addr} {xs : List V} {o : HO} (e : EG F γ H F' γ' H') (hp : H' p = some (.lst xs)) (nF : ¬ F' p) (h0 : H p = none) : EG F γ H F' γ' (upd H' p o) := by
  have t := e.toMo.trans (Mo.wr (o := o) hp nF)
  exact ⟨t, fun a o' h n => upd_keep (e.keep a o' h n) fun z => (by subst z; rw [h0] at h; cases h), fun a h => upd_there (e.tr a h), e.fresh, e.gam⟩
theorem tE_lc {p : Bool} {mi : MI} {f : Tg} {is vs : List Nat} (his : ∀ i ∈ is, i ∈ vs) (h : tE M W (mLc mi f mt ma vs) σ H Q) : tLc (tI p M W mi) (tG p M f is) (tT M W0 mt) (tE M W0 ma) vs σ H Q := by
  obtain ⟨own, F, γ, env, S, er, q⟩ := h
  change KG M W own F γ H env σ ((mi env S).bind fun ds S1 => (goLc f mt ma (wipeE env vs) ds [] S1).bind fun acc S2 => Res.ok (Vl.ow (.list acc)) S2) _ at q
  refine ⟨own, F, γ, env, S, er, ?_⟩
  revert q
  cases mi env S with
  | stuck => exact fun q => q
  | exc e S1 => exact fun q => q
  | ok ds S1 =>
  intro q F1 γ1 H1 e1 er1 J hJ Dd hD
  change KG M W own F γ H env σ ((goLc f mt ma (wipeE env vs) ds [] S1).bind fun acc S2 => Res.ok (Vl.ow (.list acc)) S2) (fun r F' γ' H' _ => ∀ u, VR M own H F' γ' H' r u → Q u H') at q
  let Pv : Nat → Hp → Prop := fun i Hc => ∃ F2 γ2 S2 accv acc, EG F1 γ1 H1 F2 γ2 Hc ∧ ER M own F2 γ2 Hc (wipeE env vs) (L2.wipe σ vs) S2 ∧ Hc Dd = some (.lst accv) ∧ ¬ F2 Dd ∧ own Dd = none ∧ Dd ∉ γ2 ∧ RpAll M.K F2 Hc acc accv ∧
    goLc f mt ma (wipeE env vs) ds [] S1 = goLc f mt ma (wipeE env vs) (ds.drop i) acc S2
  refine ⟨fun i n Hc => n = ds.length - i ∧ i ≤ ds.length ∧ Pv i Hc, ⟨_, rfl, Nat.zero_le _, F1, γ1, S1, [], [], EG.new hD, (er1.new hD).wipe vs, upd_same, er1.pF hD, er1.pO hD, er1.pG hD, .nil, rfl⟩, ?_⟩
  rintro i n Hc ⟨rfl, hi, F2, γ2, S2, accv, acc, e2, er2, hDc, nF, no, ng, hr, hgo⟩
  by_cases hlt : i < ds.length
  · refine .inr ⟨hJ.goes i F2 Hc hlt e2.toMo, Pv (i + 1), fun H3 p => ⟨ds.length - (i + 1), by omega, rfl, hlt, p⟩, fun x H3 y => ?_⟩
    obtain ⟨d, hd, yo⟩ := hJ.yields i F2 Hc x H3 hlt e2.toMo y
    obtain ⟨e3, er3, rp⟩ := yo.er er2
    obtain ⟨hl, rfl⟩ := List.getElem?_eq_some_iff.mp hd
    rw [List.drop_eq_getElem_cons hl] at hgo
    have hgo2 : goLc f mt ma (wipeE env vs) ds [] S1 = (match f (wipeE env vs) ds[i] with
      | none => .stuck
      | some env' => match mt env' S2 with
        | .ok k S1 => if k then (match ma env' S1 with
            | .ok v S2 => match v.frz with
              | some x => if acc.length < 16777216 then goLc f mt ma (wipeE env vs) (ds.drop (i + 1)) (acc ++ [x]) S2 else .stuck
              | none => .stuck
            | _ => .stuck) else goLc f mt ma (wipeE env vs) (ds.drop (i + 1)) acc S1
        | _ => .stuck) := hgo
    have hDn : Hc Dd ≠ none := by rw [hDc]; exact fun z => nomatch z
    have stk : goLc f mt ma (wipeE env vs) ds [] S1 ≠ .stuck := fun z => by rw [z] at q; exact q
    have nex : ∀ e S', goLc f mt ma (wipeE env vs) ds [] S1 ≠ .exc e S' := by
      have key : ∀ (ds acc : List PyData) (S : Sto) (e : Xc) (S' : Sto), goLc f mt ma (wipeE env vs) ds acc S ≠ .exc e S' := fun ds => by
        induction ds with
        | nil => intro acc S e S' z; cases z
        | cons d ds ih =>
          intro acc S e S' z
          unfold goLc at z
          split at z
          · cases z
          · split at z
            · split at z
              · split at z
                · split at z
                  · split at z
                    · exact ih _ _ _ _ z
                    · cases z
                  · cases z
                · cases z
              · exact ih _ _ _ _ z
            · cases z
      exact fun e S' => key _ _ _ e S'
    cases hf : f (wipeE env vs) ds[i] with
    | none => rw [hf] at hgo2; exact absurd hgo2 stk
    | some env' =>
      rw [hf] at hgo2
      dsimp only at hgo2
      refine ⟨ds[i], own, F2, γ2, wipeE env vs, S2, env', er3, rp, hf, fun σ4 er4 w4 => ⟨(w4 vs his).trans ?_, own, F2, γ2, env', S2, er4, ?_⟩⟩
      · have : ∀ vs : List Nat, L2.wipe (L2.wipe σ vs) vs = L2.wipe σ vs := fun vs => by
          have g : ∀ (ws : List Nat) (τ : L2.St), (∀ i ∈ ws, i < τ.length → τ[i]? = some none) → L2.wipe τ ws = τ := fun ws => by
            induction ws with
            | nil => intro τ _; rfl
            | cons w ws ih =>
              intro τ hτ
              show (L2.wipe τ ws).set w none = τ
              rw [ih τ fun i hi => hτ i (List.mem_cons_of_mem _ hi)]
              by_cases hw : w < τ.length
              · have := hτ w List.mem_cons_self hw
                apply List.ext_getElem?
                intro j
                by_cases ej : j = w
                · subst ej; rw [List.getElem?_set_self hw, this]
                · rw [List.getElem?_set_ne (Ne.symm ej)]
              · rw [List.set_eq_of_length_le (by omega)]
          exact g vs _ fun i hi hl => wipe_get hi (by rw [wipe_length] at hl; exact hl)
        exact this vs
      · cases hm : mt env' S2 with
        | stuck => rw [hm] at hgo2; exact absurd hgo2 stk
        | exc e S3 => rw [hm] at hgo2; exact absurd hgo2 stk
        | ok kb S3 =>
          rw [hm] at hgo2
          dsimp only at hgo2
          intro F5 γ5 H5 e5 er5
          have eD3 : H3 Dd = some (.lst accv) := e3.keep Dd _ hDc ng
          have keepD : ∀ {F9 γ9 H9}, EG F2 γ2 H3 F9 γ9 H9 → H9 Dd = some (.lst accv) ∧ ¬ F9 Dd ∧ Dd ∉ γ9 := fun {F9 γ9 H9} e9 => ⟨e9.keep Dd _ eD3 ng, e9.nF (by rw [eD3]; exact fun z => nomatch z) nF, e9.nin (by rw [eD3]; exact fun z => nomatch z) ng⟩
          cases kb with
          | false =>
            obtain ⟨k1, k2, k3⟩ := keepD e5
            exact ⟨F5, γ5, S3, accv, acc, e2.trans (e3.trans e5), er2.carry (e3.trans e5) er5, k1, k2, no, k3, RpAll.mono (e3.trans e5).toMo acc accv hr, hgo2⟩
          | true =>
            refine ⟨own, F5, γ5, env', S3, er5, ?_⟩
            have hgo2 : goLc f mt ma (wipeE env vs) ds [] S1 = (match ma env' S3 with
              | .ok v S2 => match v.frz with
                | some x => if acc.length < 16777216 then goLc f mt ma (wipeE env vs) (ds.drop (i + 1)) (acc ++ [x]) S2 else .stuck
                | none => .stuck
              | _ => .stuck) := hgo2
            cases hma : ma env' S3 with
            | stuck => rw [hma] at hgo2; exact absurd hgo2 stk
            | exc e S4 => rw [hma] at hgo2; exact absurd hgo2 stk
            | ok v S4 =>
              rw [hma] at hgo2
              dsimp only at hgo2
              cases hfz : v.frz with
              | none => rw [hfz] at hgo2; exact absurd hgo2 stk
              | some xd =>
                rw [hfz] at hgo2
                dsimp only at hgo2
                by_cases hz : acc.length < 16777216
                · rw [if_pos hz] at hgo2
                  intro F6 γ6 H6 e6 er6 yv vr
                  obtain ⟨hdat, nb⟩ := frz_dat hfz
                  obtain ⟨F7, m7, er7, rp7, hfr⟩ := er6.freeze vr hdat nb
                  have e7 : EG F5 γ5 H5 F7 γ6 H6 := e6.frz m7 hfr
                  have e37 := (e5.trans e7)
                  obtain ⟨k1, k2, k3⟩ := keepD e37
                  have nl := RpAll.length hr
                  refine ⟨accv, k1, by rw [← nl]; exact Nat.lt_of_lt_of_le hz size16, F7, γ6, S4, _, acc ++ [xd], (e2.trans (e3.trans e37)).wrD k1 k2 hD, (er2.carry (e3.trans e37) er7).wrD k1 k2 no k3, upd_same, k2, no, k3, ?_, hgo2⟩
                  exact RpAll.mono (Mo.wr k1 k2) _ _ ((RpAll.mono (e3.trans e37).toMo acc accv hr).append (.one rp7))
                · rw [if_neg hz] at hgo2; exact absurd hgo2 stk
  · have e : i = ds.length := by omega
    subst e
    refine .inl ⟨hJ.stops F2 Hc e2.toMo, ?_⟩
    rw [List.drop_length] at hgo
    rw [hgo] at q
    exact q F2 γ2 Hc (e1.trans e2) (er1.carry e2 er2) _ ⟨Dd, rfl, nF, no, ng, e1.back hD, accv, hDc, hr⟩
end
end TL
end

section
set_option Elab.async false
set_option linter.all false
set_option maxRecDepth 100000
set_option maxHeartbeats 1000000
namespace TL
open PySem PySem.Spec PyProof.Rows L2

section
variable {X : Cx} {W : WX} {B : Bs} {N Nv Nv' G G' : List Str} {ls ls' : List Nat} {P : Pg} {k : Nat} {M : Md} {own own' : Addr → Option Nat} {F F' F1 F2 Fs Fs' : Addr → Prop} {γ γ' γ1 γ2 : List Addr} {H H' H0 H1 H2 Hs Hs' : Hp} {env env' env2 : En} {σ σ' σ2 : L2.St} {S S' S1 : Sto} {r : Vl} {u : V} {Q : VK} {D : Ends}
variable {a b c e : Expr} {es : List Expr} {ma mb mc : ME} {mr : MA} {mt mu : MT} {pos : Pos} {st : Stmt} {sts : List Stmt} {m m' : MS}

theorem md_blk (hc : X.calm = true) {s : Shared} {scope : Scope} {cenv : Env} {fp : List Addr} : md (X.blk s H scope cenv fp) = md X := by
  unfold md hxOf
  rw [if_pos (show (X.blk s H scope cenv fp).calm = true from hc), if_pos hc]
theorem s_lc (C : Ct P W N Nv G ls k X) (hc : X.calm = true) {sc : Scope} (hsc : X.env.scope = sc) {elt tg iter : Expr} {ifs : List Expr} {scope : Scope} (own : List (Str × Nat)) (Nv' G' : List Str) (ls' : List Nat) {p : Bool} {mi : MI} {f : Tg} {is : List Nat}
    (hi : EI p X W tg iter mi) (hb : ∀ X', Ct P W0 N Nv' G' ls' k X' → X'.calm = true → X'.env.scope = relS scope sc → EGt p X' tg f is ∧ ETs X' W0 ifs mt ∧ ES X' W0 elt ma)
    (ok : blkC N sc scope own = true := by decide +kernel) (hk : ckS (relS scope sc).names scope.names N Nv' G' ls' = true := by decide +kernel) (his : ∀ i ∈ is, i ∈ own.map (·.2) := by decide)
    (hs : ∀ x, foldedSetIterable iter X.env x = pure x := by intro _; rfl) :
    ES X W (.ListComp elt [⟨tg, iter, ifs, 0⟩] scope pos) (mLc mi f mt ma (own.map (·.2))) :=
  pe_mono (pe_lc (wi := tI p (md X) W mi) (g := tG p (md X) f is) (tt := tT (md X) W0 mt) (te := tE (md X) W0 ma) hc (by rw [C.hN]; exact C.nd) (hi hc) (blkOk_by (by rw [C.hN, hsc]; exact ok)) (fun s H C0 cl fp => by have q := (hb _ (C.blk hc hsc hk s H C0 cl fp) hc (by rw [← hsc]; rfl)).1; simp only [EGt, ETs, ES] at q; rw [md_blk hc] at q; exact q) (fun s H C0 cl fp => by have q := (hb _ (C.blk hc hsc hk s H C0 cl fp) hc (by rw [← hsc]; rfl)).2.1; simp only [EGt, ETs, ES] at q; rw [md_blk hc] at q; exact q)
    (fun s H C0 cl fp => by have q := (hb _ (C.blk hc hsc hk s H C0 cl fp) hc (by rw [← hsc]; rfl)).2.2; simp only [EGt, ETs, ES] at q; rw [md_blk hc] at q; exact q) hs) fun σ H Q => tE_lc his
/-- a comprehension whose name is kept by a cell, or stands on another line -/
theorem swaps_no {sc : Scope} (hsc : X.env.scope = sc) {elt : Expr} {gs : List Comprehension} {scope : Scope} {pos : Pos} {y : Str} {py : Pos} {l : Nat} (h : (sc.names.lookup y == some .local && (py.line == pos.line) && !(scope.names.any fun (n, k) => n == y && (k == .local || k == .cell))) = false := by rfl) :
    swapsWith (.ListComp elt gs scope pos) (some (.Name y py)) l X.env = pure false := by
  unfold swapsWith
  show (pure (X.env.blockKind == .function && X.env.kindOf y == some .local && (py.line == pos.line) && !(scope.names.any fun (n, k) => n == y && (k == .local || k == .cell))) : Sem Bool) = pure false
  have e : (X.env.kindOf y == some .local && (py.line == pos.line) && !(scope.names.any fun (n, k) => n == y && (k == .local || k == .cell))) = false := by
    show (X.env.scope.names.lookup y == some .local && _ && _) = false
    rw [hsc]; exact h
  rw [Bool.and_assoc, Bool.and_assoc, ← Bool.and_assoc (X.env.kindOf y == some .local), e, Bool.and_false]
/-- name = [..], on one line -/
theorem q_setLc (C : Ct P W N Nv G ls k X) (hc : X.calm = true) {sc : Scope} (hsc : X.env.scope = sc) (i : Nat) {y : Str} {py spos : Pos} {elt tg iter : Expr} {ifs : List Expr} {scope : Scope} (own : List (Str × Nat)) (Nv' G' : List Str) (ls' : List Nat) {p : Bool} {mi : MI} {f : Tg} {is : List Nat}
    (hi : EI p X W tg iter mi) (hb : ∀ X', Ct P W0 N Nv' G' ls' k X' → X'.calm = true → X'.env.scope = relS scope sc → EGt p X' tg f is ∧ ETs X' W0 ifs mt ∧ ES X' W0 elt ma)
    (hy : N[i]? = some y := by rfl) (hl : i ∈ ls := by decide) (hloc : sc.names.lookup y = some .local := by rfl)
    (hline : (py.line == pos.line) = true := by rfl) (hkf : sc.kind = .function := by rfl) (hnm : (scope.names.any fun (n, k) => n == y && (k == .local || k == .cell)) = false := by rfl)
    (ok : blkC N sc scope own = true := by decide +kernel) (hk : ckS (relS scope sc).names scope.names N Nv' G' ls' = true := by decide +kernel) (his : ∀ i ∈ is, i ∈ own.map (·.2) := by decide)
    (hs : ∀ x, foldedSetIterable iter X.env x = pure x := by intro _; rfl) :
    SS X W B (.Assign [.Name y py] (.ListComp elt [⟨tg, iter, ifs, 0⟩] scope pos) spos) (mSet i (mLc mi f mt ma (own.map (·.2)))) :=
  ps_mono (ps_setLc (wi := tI p (md X) W mi) (g := tG p (md X) f is) (tt := tT (md X) W0 mt) (te := tE (md X) W0 ma) hc (by rw [C.hN]; exact C.nd) (by rw [C.hN]; exact hy) (by rw [hsc]; exact hloc) (by unfold swapsWith; show (pure (X.env.blockKind == .function && X.env.kindOf y == some .local && (py.line == pos.line) && !(scope.names.any fun (n, k) => n == y && (k == .local || k == .cell))) : Sem Bool) = pure true; rw [hline, hnm]; unfold Env.blockKind Env.kindOf; rw [hsc, hkf, hloc]; rfl) (hi hc) (blkOk_by (by rw [C.hN, hsc]; exact ok)) (fun s H C0 cl fp => by have q := (hb _ (C.blk hc hsc hk s H C0 cl fp) hc (by rw [← hsc]; rfl)).1; simp only [EGt, ETs, ES] at q; rw [md_blk hc] at q; exact q) (fun s H C0 cl fp => by have q := (hb _ (C.blk hc hsc hk s H C0 cl fp) hc (by rw [← hsc]; rfl)).2.1; simp only [EGt, ETs, ES] at q; rw [md_blk hc] at q; exact q)
    (fun s H C0 cl fp => by have q := (hb _ (C.blk hc hsc hk s H C0 cl fp) hc (by rw [← hsc]; rfl)).2.2; simp only [EGt, ETs, ES] at q; rw [md_blk hc] at q; exact q) hs) fun D σ H ⟨own, F, γ, env, S, s, er, q⟩ =>
  tE_lc (M := md X) his ⟨own, F, γ, env, S, er, KE_toS s q fun v F' γ' H' S' e s' er' q' u vr => KS_put er' s' (vr.back s.eg) q'⟩

/-! ### functions -/
def AR (M : Md) (F : Addr → Prop) (γ : List Addr) (H : Hp) : Vl → V → Prop
  | .fr d, u => Rp M.K F H d u
  | .rf k, u => ∃ p, u = .ref p ∧ γ[k]? = some p
  | .sc ns, u => ∃ p, u = .ref p ∧ SqS M.K H p (ns.map .int)
  | _, _ => False
def KF (M : Md) (F : Addr → Prop) (γ : List Addr) (H : Hp) (r : Res Vl) (Q : VK) (E : XK) : Prop := match r with
  | .ok v S' => ∀ F' γ' H', EG F γ H F' γ' H' → CR2 M F' γ' H' S' → ∀ u, VR M nob H F' γ' H' v u → Q u H'
  | .exc e S' => ∀ F' γ' H' cls d, EG F γ H F' γ' H' → CR2 M F' γ' H' S' → XR M F' H' e cls d → E cls d H'
  | .stuck => False
abbrev MF := List Vl → Sto → Res Vl
/-- what a def does, by its mirror; n: the number of its parameters -/
def spM (M : Md) (n : Nat) (mf : MF) : Sp := fun vs H Q E => vs.length = n ∧ ∃ F γ S xs, CR2 M F γ H S ∧ Paired (AR M F γ H) xs vs ∧ KF M F γ H (mf xs S) Q E
abbrev pgM (P : Pg) : Md := ⟨P.K, P.mg, none⟩
def AMode (c : Bool) (A : Around) (outer : List Env) (H : Hp) (s : Shared) : Prop := A.handled = none ∨ (c = false ∧ ∃ p, L2H.Hot1 A p ∧ L2H.PinOk outer H s p)
structure FnG (P : Pg) (c : Bool) (k : Nat) (f : Addr) (fd : FuncData) (ps : List Str) (mf : MF) : Prop where
  run : ∀ (A : Around) (outer : List Env) (s : Shared) (H : Hp) (args : Args) (us : List Value) (vs : List V) (Q : VK) (E : XK), L2H.RoomH k A → A.guards = some [] → AMode c A outer H s → Env0 P.prog P.w P.K P.mg P.base A outer s H → BindsTo s fd args (ps.zip us) → Vals vs us →
    spM (pgM P) ps.length mf vs H Q E → codeAny (model P.prog P.w) A (.call (.ref f) args) (CR (L2N.CX P.prog P.w) outer P.prog P.w H s Q E) s
/-- a def with the name x that takes n arguments -/
def Cal (P : Pg) (c : Bool) (k : Nat) (x : Str) (mf : MF) : Prop := ∃ f fd ps, P.mg x = some (.ref f) ∧ PySem.W.keepIn P.K (.ref f) = true ∧ Binds P.K fd ps [] ∧ FnG P c k f fd ps mf ∧ ∀ xs S, xs.length ≠ ps.length → mf xs S = .stuck
def argV : Vl → Option Vl
  | .fr d => some (.fr d)
  | .ow d => some (.fr d)
  | .rf k => some (.rf k)
  | .sc ns => some (.sc ns)
  | .bo _ _ => none
  | .ex _ => none
def argL : List Vl → Option (List Vl)
  | [] => some []
  | x :: xs => match argV x, argL xs with
    | some y, some ys => some (y :: ys)
    | _, _ => none
def mCall (mf : MF) (mr : MA) : ME := fun env S => (mr env S).bind fun xs S1 => match argL xs with
  | some ys => mf ys S1
  | none => .stuck
theorem argL_len : ∀ {xs ys : List Vl}, argL xs = some ys → ys.length = xs.length
  | [], ys, h => by cases h; rfl
  | x :: xs, ys, h => by
    unfold argL at h
    split at h
    · rename_i y ys' h1 h2
      cases h
      rw [List.length_cons, List.length_cons, argL_len h2]
    · cases h
theorem argL_ar (mo : Mo F H F2 H) : ∀ {xs ys : List Vl} {us : List V}, argL xs = some ys → Paired (VR M own H0 F γ H) xs us → (∀ a, tmpA xs us a → F2 a) → Paired (AR M F2 γ H) ys us
  | [], ys, _, h, .nil, _ => by cases h; exact .nil
  | x :: xs, ys, _, h, .cons (b := u) v p, hf => by
    unfold argL at h
    split at h
    · rename_i y ys' h1 h2
      cases h
      refine .cons ?_ (argL_ar mo h2 p fun a t => hf a (tmpA_cons t))
      cases x with
      | fr d => cases h1; exact Rp.mono mo d _ v
      | ow d =>
        cases h1
        obtain ⟨q, rfl, g1, g2, g3, g4, g5⟩ := v
        exact g5.frz mo (hf q (.inl rfl))
      | bo i d => cases h1
      | rf k => cases h1; exact v
      | sc ns => cases h1; obtain ⟨q, rfl, g⟩ := v; exact ⟨q, rfl, mo.sc g⟩
      | ex p => cases h1
    · cases h
theorem argL_fr {rs ys : List Vl} {us : List V} (er : ER M own F γ H env σ S) (p : Paired (VR M own H0 F γ H) rs us) (h : argL rs = some ys) :
    ∃ F2, Mo F H F2 H ∧ ER M own F2 γ H env σ S ∧ Paired (AR M F2 γ H) ys us ∧ ∀ a, F2 a → F a ∨ H0 a = none :=
  ⟨fun a => F a ∨ tmpA rs us a, Mo.addF, er.addF fun a t => ⟨(tmpA_spec p a t).1, (tmpA_spec p a t).2.1, (tmpA_spec p a t).2.2.1⟩, argL_ar Mo.addF h p fun a t => .inr t, fun a z => z.imp id fun t => (tmpA_spec p a t).2.2.2⟩
/-- the caller's slots after a call -/
theorem ER.called (er : ER M own F γ H env σ S) (g : EG F γ H F' γ' H') (c : CR2 M F' γ' H' S') : ER M own F' γ' H' env σ S' :=
  ⟨er.len, fun i s o h1 h2 => (er.slot i s o h1 h2).mono g er.own, fun a i q => ⟨g.nF (er.own a i q).2.2 (er.own a i q).1, g.nin (er.own a i q).2.2 (er.own a i q).2.1, g.tr a (er.own a i q).2.2⟩, c⟩
theorem CR2.nx (c : CR2 M F γ H S) : CR2 M.nx F γ H S := ⟨c.ft, c.len, c.nd, c.nF, fun k ob a h1 h2 => by
  have := c.cell k ob a h1 h2
  cases ob <;> exact this⟩
theorem CR2.ofNx (c : CR2 M.nx F γ H S) : CR2 M F γ H S := ⟨c.ft, c.len, c.nd, c.nF, fun k ob a h1 h2 => by
  have := c.cell k ob a h1 h2
  cases ob <;> exact this⟩
theorem AR.nx {x : Vl} {v : V} (h : AR M F γ H x v) : AR M.nx F γ H x v := by cases x <;> exact h
theorem AR.ofNx {x : Vl} {v : V} (h : AR M.nx F γ H x v) : AR M F γ H x v := by cases x <;> exact h
theorem VR.ofNx {own : Addr → Option Nat} (h : VR M.nx own H0 F γ H r u) : VR M own H0 F γ H r u := by
  cases r with
  | ex p => obtain ⟨a, d, ⟨h, _⟩, _⟩ := h; cases h
  | _ => exact h
theorem VR.called (er : ER M own F γ H env σ S) (v : VR M nob H F' γ' H' r u) : VR M own H F' γ' H' r u := by
  cases r with
  | ow d =>
    obtain ⟨p, rfl, h1, h2, h3, h4, h5⟩ := v
    exact ⟨p, rfl, h1, er.pO h4, h3, h4, h5⟩
  | bo i d =>
    obtain ⟨p, rfl, h1, h2, h3⟩ := v
    cases h2
  | fr d => exact v
  | rf k => exact v
  | sc ns => exact v
  | ex p => exact v
theorem KF_of (er : ER M own F1 γ1 H1 env σ S1) {x : Res Vl} (g : EG F γ H F1 γ1 H1) (h : KE M W own F γ H env σ x Q) : KF M.nx F1 γ1 H1 x Q (WE W σ) := by
  cases x with
  | ok v S' => exact fun F' γ' H' e c u vr => h F' γ' H' (g.trans e) (er.called e c.ofNx) u ((vr.ofNx.called er).back g)
  | exc e S' => exact fun F' γ' H' cls d e' c x => h F' γ' H' cls d (g.trans e') (er.called e' c.ofNx) x
  | stuck => exact h
theorem run_fnG {f : Addr} {fd : FuncData} {ps : List Str} {mf : MF} {cb : Bool} {E : XK} {pins : List (Addr × Obj)} {s : Shared} {us : List Value} {vs : List V} (F : FnG (pgOf X) cb k f fd ps mf) (hr : L2H.RoomH k X.A) (gu : X.A.guards = some []) (mo : X.calm = true ∨ (cb = false ∧ L2H.HotC X)) (hb : Binds X.K fd ps [])
    (hx : PassesAt (L2N.CX X.prog X.w) X σ E) (I : Inv X pins σ H s) (r : Vals vs us) (h : spM (pgM (pgOf X)) ps.length mf vs H Q E) : wpAny (model X.prog X.w) X.A (call (.ref f) us) (EP X pins σ Q) X.xe s := by
  have hl : us.length = ps.length := by rw [← r.length]; exact h.1
  have b := hb s us I.kIn (by rw [List.append_nil]; exact hl)
  rw [List.append_nil] at b
  have am : AMode cb X.A X.stack H s := by
    rcases mo with hc | ⟨hc, p, hot, hp⟩
    · exact .inl (I.ok.hd hc)
    · have P1 := I.pin p (List.mem_append_left _ hp)
      exact .inr ⟨hc, p, hot, P1.1, P1.2.1, fun hm => (List.mem_cons.mp (I.stkSub p.1 hm)).elim P1.2.2.1 P1.2.2.2.1, P1.2.2.2.2⟩
  refine wpAny_call (codeAny_mono (F.run X.A X.stack s H ⟨us, []⟩ us vs Q E hr gu am I.env0 b r h) fun r s' hq => ?_)
  cases r with
  | error e => exact hx pins H s e s' I hq
  | ok fl =>
    cases fl with
    | ret u => exact I.after hq
    | next => exact False.elim hq
    | brk => exact False.elim hq
    | cont => exact False.elim hq
theorem s_call (C : Ct P W N Nv G ls k X) {cb : Bool} {j : Nat} {x : Str} {q : Pos} {mf : MF} (i : Nat) (Fc : Cal P cb j x mf) (hj : j ≤ k) (hc : cb = true → X.calm = true) (hr : EA X W (e :: es) mr) (hg : G[i]? = some x := by rfl)
    (hdb : (x == ("__debug__" : Str)) = false := by decide) (he : starEach (e :: es) X.env = (false, eval e X.env) :: starEach es X.env := by rfl) (hpl : (backTo pos (starEach es X.env)).any (·.1) = false := by rfl) :
    ES X W (.Call (.Name x q) (e :: es) [] pos) (mCall mf mr) := by
  obtain ⟨f, fd, ps, hm, hk, hb, F, hst⟩ := Fc
  have pg := C.pg
  subst pg
  have md0 : X.calm = true ∨ (cb = false ∧ L2H.HotC X) := by
    cases cb with
    | true => exact .inl (hc rfl)
    | false => exact C.mo.imp id fun h => ⟨rfl, h⟩
  refine ⟨fun pins s σ H Q I h => ?_⟩
  obtain ⟨own, F0, γ, env, S, er, hq⟩ := h
  refine wpAny_Call_Name_kw (ld_glob I (C.glo i x hg) hm ?_ hdb)
  have hA : tA (md X) W mr σ H fun vs H1 => ∃ E, PassesAt (L2N.CX X.prog X.w) X σ E ∧ spM (pgM (pgOf X)) ps.length mf vs H1 Q E := by
    refine ⟨own, F0, γ, env, S, er, KG_mono (KG_bindA .refl hq) ?_⟩
    intro rs F' γ' H' S' e' er' q2 us vs
    obtain ⟨F2, γ2, S2, rs2, e2, g2, er2, p2, p3, q3⟩ := q2 us vs
    refine ⟨WE W σ, L2N.passAt C.tk σ, ?_⟩
    cases ho : argL rs2 with
    | none => rw [ho] at q3; exact q3.elim
    | some ys =>
      rw [ho] at q3
      dsimp only at q3
      obtain ⟨F3, m3, er3, ap, hfr⟩ := argL_fr er2 p2 ho
      have hlen : us.length = ps.length := by
        rw [← ap.length]
        by_cases hl : ys.length = ps.length
        · exact hl
        · rw [hst ys S2 hl] at q3; exact q3.elim
      exact ⟨hlen, F3, γ2, S2, ys, er3.c.nx, Paired.mapR (fun _ _ q => AR.nx (M := md X) q) ap, KF_of er3 (g2.frz m3 hfr) q3⟩
  refine PySem.W.callWith_K (h₀ := X.base) I.ok.mod.kin hk (thn (hr.run pos pins s σ H _ I hA) fun us s1 ⟨vs, H1, I1, r, E, hx, q⟩ => ⟨I1.kIn, ?_⟩) he hpl
  exact run_fnG F (C.rm.mono hj) C.gu md0 hb hx I1 r q

/-! ### a def by its body -/
def slA : Vl → Sl
  | .fr d => .fr d
  | .rf k => .rf k
  | .sc ns => .sc ns
  | _ => .un
def startE (n : Nat) (xs : List Vl) : En := xs.map slA ++ List.replicate (n - xs.length) .un
/-- np parameters, n names -/
def mFn (np n : Nat) (m : MS) : MF := fun xs S => if xs.length = np then (match m (startE n xs) S with
  | .rt v S' => .ok v S'
  | .nx _ S' => .ok (.fr .none) S'
  | .exc e _ S' => .exc e S'
  | _ => .stuck) else .stuck
theorem mFn_len {np n : Nat} (xs : List Vl) (S : Sto) (h : xs.length ≠ np) : mFn np n m xs S = .stuck := by unfold mFn; rw [if_neg h]
theorem paired_slots : ∀ {xs : List Vl} {vs : List V}, Paired (AR M F γ H) xs vs → ∀ (i : Nat) (s : Sl) (o : Option V), (xs.map slA)[i]? = some s → (vs.map some)[i]? = some o → SlR M nob F γ H i s o
  | [], _, .nil, i, s, o, h, _ => by simp at h
  | x :: xs, v :: vs, .cons r t, 0, s, o, h1, h2 => by
    simp at h1 h2
    subst h1; subst h2
    cases x with
    | fr d => exact ⟨v, rfl, r⟩
    | rf k => obtain ⟨p, rfl, h⟩ := r; exact ⟨p, rfl, h⟩
    | sc ns => obtain ⟨p, rfl, h⟩ := r; exact ⟨p, rfl, h⟩
    | ow d => exact r.elim
    | bo i d => exact r.elim
    | ex p => exact r.elim
  | x :: xs, v :: vs, .cons r t, i + 1, s, o, h1, h2 => by
    have := paired_slots t i s o (by simpa using h1) (by simpa using h2)
    cases s with
    | un => trivial
    | fr d => exact this
    | rf k => exact this
    | sc ns => exact this
    | ow d => obtain ⟨p, _, h, _⟩ := this; cases h
    | ex p => exact this
theorem start_er {xs : List Vl} {vs : List V} (c : CR2 M F γ H S) (h : Paired (AR M F γ H) xs vs) : ER M nob F γ H (startE N.length xs) (L2.start N vs) S := by
  refine ⟨?_, fun i s o h1 h2 => ?_, fun a i q => (nomatch q), c⟩
  · unfold startE L2.start
    simp [h.length]
  · unfold startE at h1
    unfold L2.start at h2
    by_cases hi : i < xs.length
    · rw [List.getElem?_append_left (by simpa using hi)] at h1
      rw [List.getElem?_append_left (by rw [List.length_map, ← h.length]; exact hi)] at h2
      exact paired_slots h i s o h1 h2
    · rw [List.getElem?_append_right (by simpa using hi), List.getElem?_replicate] at h1
      split at h1
      · cases h1; trivial
      · cases h1
theorem KS_fn {np : Nat} {xs : List Vl} {E : XK} (hl : xs.length = np) (h : KF M.nx F γ H (mFn np N.length m xs S) Q E) : KS M (fun cls d _ H => E cls d H) ⟨F, γ, H⟩ F H (m (startE N.length xs) S) { nx := fun _ H' => Q .non H', rt := Q } := by
  unfold mFn at h
  rw [if_pos hl] at h
  cases hm : m (startE N.length xs) S with
  | nx e S' => rw [hm] at h; exact fun own' F' γ' H' σ' s mo er => h F' γ' H' s.eg er.c.nx .non (by show Rp _ _ _ _ _; simp [Rp])
  | bk e S' => rw [hm] at h; exact h.elim
  | ct e S' => rw [hm] at h; exact h.elim
  | rt v S' => rw [hm] at h; exact fun F' γ' H' e c u vr => h F' γ' H' e c.nx u vr
  | exc e en S' => rw [hm] at h; exact fun own' F' γ' H' σ' cls d s _ er x => h F' γ' H' cls d s.eg er.c.nx x
  | stuck => rw [hm] at h; exact h.elim
/-- the frame's own environment stands on top -/
def Top (X : Cx) : Prop := X.stack = X.env :: X.outer ∧ X.env.frame = some X.env.locals
theorem guards_deeper {A : Around} {env : Env} (h : A.guards = some []) : (A.deeper env).guards = some [] := h
theorem fnG_of {P : Pg} {cb : Bool} {k : Nat} {f : Addr} {name qual : Str} {params : Arguments} {body : List Stmt} {scope : Scope} {dV kV doc pm cdv ct oc : Value} {an od : Option Addr} {osl : Array (Option Value)} {N Nv G ps : List Str} {ls : List Nat} {m : MS}
    (lk : P.K.lookup f = some ⟨oc, od, .func (PySem.W.fnOf name qual params body scope dV kV doc pm an cdv ct), osl⟩) (hcd : PySem.W.codeIn P.K cdv qual = true) (S : FnScope N ps scope) (hk : ckS scope.names scope.names N Nv G ls = true)
    (hbody : ∀ (X : Cx) (W : WX) (B : Bs), Ct P W N Nv G ls k X → (cb = true → X.calm = true) → Top X → X.env.scope = scope → SSs X W B body m) :
    FnG P cb (k + 1) f (PySem.W.fnOf name qual params body scope dV kV doc pm an cdv ct) ps (mFn ps.length N.length m) := by
  refine ⟨fun A outer s H args us vs Q E hr gu am e0 hb r hsp => ?_⟩
  obtain ⟨hl, F, γ, Sx, xs, cr, ap, kf⟩ := hsp
  have hxl : xs.length = ps.length := ap.length.trans hl
  have KX : P.K.In s.heap := e0.mod.kin.keeps fun b o e => (e0.bs b o e).1
  have lim : s.heap.NoLimit := e0.mod.nolimit.keeps fun b o e => (e0.bs b o e).1
  have hkind : ∀ y ∈ ps.zip us, scope.names.lookup y.1 = some .local ∨ (scope.names.lookup y.1 = some .cell ∧ ((cellsFrom (s.heap.objs.size + 1) scope.names []).lookup y.1).isSome = true) := fun ⟨n, v⟩ hy => by
    rcases S.par n (List.of_mem_zip hy).1 with q | q
    · exact .inl q
    · exact .inr ⟨q, PySem.W.cellsFrom_some _ _ _ (.inl q)⟩
  refine codeAny_call_function hr.depth (KX _ _ lk) rfl S.co S.gen rfl (PySem.W.codeRec_of KX hcd) (hb _ _ _ _ ?_)
  refine wpAny_newFunctionEnv_cells S.kind hkind fun env he s1 x => ?_
  subst he
  refine ⟨lim.keeps x.toInCall.keep, codeAny_func ?_⟩
  have ctx : ∀ X : Cx, X.env.scope = scope → pgOf X = P → X.N = N → X.A = A.deeper (envOfC qual scope s.heap.objs.size f cdv) → X.fn = (fun _ => true) → L2N.Takes X (fun cls d _ H => E cls d H) → Mode X → PassesOwn (model X.prog X.w) X.A X.env X.xe →
      Ct P (fun cls d _ H => E cls d H) N Nv G ls k X := fun X h1 h2 h3 h4 h5 h6 h7 h8 =>
    ⟨h2, h3, S.nd, fun i x q1 q2 => by
      obtain ⟨g1, g2⟩ := ckS_vis hk q1 q2
      exact ⟨g1, by rw [h1]; exact g2⟩, fun i x q => by show X.env.scope.names.lookup x = _; rw [h1]; exact ckS_glo hk q, fun i hi x q => ⟨by rw [h1]; exact ckS_loc hk hi q, .inl (by rw [h5])⟩, h6, h7, by rw [h4]; exact guards_deeper gu, by rw [h4]; exact hr.deeper _, h8⟩
  rcases am with hh | ⟨hc, p, hot, hpin⟩
  · have C := ctx (cxOf (L2N.CX P.prog P.w) P.prog P.w P.K P.mg P.base N qual scope f cdv A outer s H E) rfl rfl rfl rfl rfl (L2N.takes_of rfl rfl rfl rfl) (.inl rfl) (passes_of rfl)
    have ht := hbody _ _ ⟨F, γ, H⟩ C (fun _ => rfl) ⟨rfl, rfl⟩ rfl
    have I := inv_start (CX := L2N.CX P.prog P.w) (E := E) S hh e0 hl r x
    refine wpAny_mono (ht.run [] s1 (L2.start N vs) H { nx := fun _ H' => Q .non H', rt := Q } I ⟨nob, F, γ, startE N.length xs, Sx, ⟨EG.refl, fun a i q => nomatch q⟩, start_er (M := md (cxOf (L2N.CX P.prog P.w) P.prog P.w P.K P.mg P.base N qual scope f cdv A outer s H E)) (CR2.ofNx (M := md (cxOf (L2N.CX P.prog P.w) P.prog P.w P.K P.mg P.base N qual scope f cdv A outer s H E)) cr) (Paired.mapR (fun _ _ q => AR.ofNx (M := md (cxOf (L2N.CX P.prog P.w) P.prog P.w P.K P.mg P.base N qual scope f cdv A outer s H E)) q) ap), KS_fn (M := md (cxOf (L2N.CX P.prog P.w) P.prog P.w P.K P.mg P.base N qual scope f cdv A outer s H E)) hxl kf⟩) (fun fl s' hs => ?_) fun e s' hs => hs
    have fin : ∀ {σ' : L2.St} {H' : Hp} {v : V} {u : Value}, Inv (cxOf (L2N.CX P.prog P.w) P.prog P.w P.K P.mg P.base N qual scope f cdv A outer s H E) [] σ' H' s' → RelV v u → Q v H' → CE outer P.prog P.w H s Q u s' :=
      fun {σ' H' v u} J rv q => ⟨v, H', J.os, J.bare, J.base, J.hok, rv, q⟩
    cases fl with
    | ret u => obtain ⟨v, σ', H', J, rv, q⟩ := hs; exact fin J rv q
    | next => obtain ⟨σ', H', J, q⟩ := hs; exact fin (v := V.non) (u := Value.none) J rfl q
    | brk => obtain ⟨_, _, _, q⟩ := hs; exact False.elim q
    | cont => obtain ⟨_, _, _, q⟩ := hs; exact False.elim q
  · have C := ctx (L2H.cxH (L2N.CX P.prog P.w) P.prog P.w P.K P.mg P.base N qual scope f cdv A outer s H E p) rfl rfl rfl rfl rfl (L2N.takes_of rfl rfl rfl rfl) (.inr ⟨p, hot, by simp [L2H.cxH]⟩) (passes_of rfl)
    have ht := hbody _ _ ⟨F, γ, H⟩ C (fun z => by rw [hc] at z; cases z) ⟨rfl, rfl⟩ rfl
    have I := L2H.inv_startH (CX := L2N.CX P.prog P.w) (E := E) S hpin e0 hl r x
    refine wpAny_mono (ht.run [] s1 (L2.start N vs) H { nx := fun _ H' => Q .non H', rt := Q } I ⟨nob, F, γ, startE N.length xs, Sx, ⟨EG.refl, fun a i q => nomatch q⟩, start_er (M := md (L2H.cxH (L2N.CX P.prog P.w) P.prog P.w P.K P.mg P.base N qual scope f cdv A outer s H E p)) (CR2.ofNx (M := md (L2H.cxH (L2N.CX P.prog P.w) P.prog P.w P.K P.mg P.base N qual scope f cdv A outer s H E p)) cr) (Paired.mapR (fun _ _ q => AR.ofNx (M := md (L2H.cxH (L2N.CX P.prog P.w) P.prog P.w P.K P.mg P.base N qual scope f cdv A outer s H E p)) q) ap), KS_fn (M := md (L2H.cxH (L2N.CX P.prog P.w) P.prog P.w P.K P.mg P.base N qual scope f cdv A outer s H E p)) hxl kf⟩) (fun fl s' hs => ?_) fun e s' hs => hs
    have fin : ∀ {σ' : L2.St} {H' : Hp} {v : V} {u : Value}, Inv (L2H.cxH (L2N.CX P.prog P.w) P.prog P.w P.K P.mg P.base N qual scope f cdv A outer s H E p) [] σ' H' s' → RelV v u → Q v H' → CE outer P.prog P.w H s Q u s' :=
      fun {σ' H' v u} J rv q => ⟨v, H', J.os, J.bare, J.base, J.hok, rv, q⟩
    cases fl with
    | ret u => obtain ⟨v, σ', H', J, rv, q⟩ := hs; exact fin J rv q
    | next => obtain ⟨σ', H', J, q⟩ := hs; exact fin (v := V.non) (u := Value.none) J rfl q
    | brk => obtain ⟨_, _, _, q⟩ := hs; exact False.elim q
    | cont => obtain ⟨_, _, _, q⟩ := hs; exact False.elim q
end
end TL
end

section
set_option Elab.async false
set_option linter.all false
set_option maxRecDepth 100000
set_option maxHeartbeats 1000000
namespace TL
open PySem PySem.Spec PyProof.Rows L2

section
variable {X : Cx} {W : WX} {B : Bs} {N Nv Nv' G G' : List Str} {ls ls' : List Nat} {P : Pg} {k : Nat} {M : Md} {own own' : Addr → Option Nat} {F F' F1 F2 Fs Fs' : Addr → Prop} {γ γ' γ1 γ2 : List Addr} {H H' H0 H1 H2 Hs Hs' : Hp} {env env' env2 : En} {σ σ' σ2 : L2.St} {S S' S1 : Sto} {r : Vl} {u : V} {Q : VK} {D : Ends}
variable {a b c e : Expr} {es : List Expr} {ma mb mc : ME} {mr : MA} {mt mu : MT} {pos : Pos} {st : Stmt} {sts : List Stmt} {m m' h : MS}

abbrev Md.wx (M : Md) (x : Option (Addr × Option Addr)) : Md := ⟨M.K, M.mg, x⟩
def Sl.isEx : Sl → Bool
  | .ex _ => true
  | _ => false
theorem CR2.wx {x : Option (Addr × Option Addr)} (c : CR2 M F γ H S) : CR2 (M.wx x) F γ H S := CR2.ofNx (M := M.wx x) (show CR2 M.nx F γ H S from CR2.nx (M := M) c)
theorem SlR.wx {x : Option (Addr × Option Addr)} {i : Nat} {s : Sl} {o : Option V} (hs : s.isEx = false) (h : SlR M own F γ H i s o) : SlR (M.wx x) own F γ H i s o := by
  cases s with
  | ex p => cases hs
  | _ => exact h
/-- no slot but i holds an exception -/
theorem ER.wx {x : Option (Addr × Option Addr)} (er : ER M own F γ H env σ S) (hn : ∀ (i : Nat) (s : Sl), env[i]? = some s → s.isEx = false) : ER (M.wx x) own F γ H env σ S :=
  ⟨er.len, fun i s o h1 h2 => (er.slot i s o h1 h2).wx (hn i s h1), er.own, er.c.wx⟩
theorem ER.noEx (er : ER M own F γ H env σ S) (hM : M.hx = none) (i : Nat) (s : Sl) (h1 : env[i]? = some s) : s.isEx = false := by
  obtain ⟨o, ho, q⟩ := er_at er h1
  cases s with
  | ex p =>
    obtain ⟨u, _, a, d, ⟨z, _⟩, _⟩ := q
    rw [hM] at z; cases z
  | _ => rfl
def Rs.unset (r : Rs) (i : Nat) : Rs := match r with
  | .nx env S => if (env.set i .un).any Sl.isEx then .stuck else .nx (env.set i .un) S
  | .bk env S => if (env.set i .un).any Sl.isEx then .stuck else .bk (env.set i .un) S
  | .ct env S => if (env.set i .un).any Sl.isEx then .stuck else .ct (env.set i .un) S
  | .rt v S => .rt v S
  | _ => .stuck
/-- try: .. except x as n: .. ; the class is just x, those of no pass -/
def mTryAs (x : Str) (no : List Str) (i : Nat) (m h : MS) : MS := fun env S => match m env S with
  | .exc e env' S' => if e.cls = x then (if i < env'.length then (h (env'.set i (.ex e.place)) S').unset i else .stuck) else if e.cls ∈ no then .exc e env' S' else .stuck
  | r => r
theorem any_ex {env : En} (h : ¬ (env.any Sl.isEx) = true) (i : Nat) (s : Sl) (h1 : env[i]? = some s) : s.isEx = false := by
  cases e : s.isEx with
  | false => rfl
  | true => exact absurd (List.any_eq_true.mpr ⟨s, List.mem_of_getElem? h1, e⟩) h
theorem KN_unset {x : Option (Addr × Option Addr)} {i : Nat} {P' P2 : L2.St → Hp → Prop} (hP : ∀ σ' H', P' (σ'.set i none) H' → P2 σ' H') (hc : ¬ ((env.set i .un).any Sl.isEx) = true) (h : KN M B Fs Hs (env.set i .un) S P') : KN (M.wx x) B Fs Hs env S P2 :=
  fun own' F' γ' H' σ' s mo er => hP _ _ (h own' F' γ' H' _ s mo (ER.wx (M := M.wx x) (x := M.hx) (er.un (i := i) (o := none)) (any_ex hc)))
theorem KS_unset {x : Option (Addr × Option Addr)} {i : Nat} {r : Rs} {D2 : Ends} (h1 : ∀ σ' H', D.nx (σ'.set i none) H' → D2.nx σ' H') (h2 : ∀ σ' H', D.bk (σ'.set i none) H' → D2.bk σ' H') (h3 : ∀ σ' H', D.ct (σ'.set i none) H' → D2.ct σ' H') (h4 : ∀ u H', D.rt u H' → D2.rt u H')
    (h : KS M W B Fs Hs (r.unset i) D) : KS (M.wx x) W0 B Fs Hs r D2 := by
  cases r with
  | nx env S =>
    unfold Rs.unset at h
    dsimp only at h
    by_cases hc : ((env.set i .un).any Sl.isEx) = true
    · rw [if_pos hc] at h; exact h.elim
    · rw [if_neg hc] at h; exact KN_unset h1 hc h
  | bk env S =>
    unfold Rs.unset at h
    dsimp only at h
    by_cases hc : ((env.set i .un).any Sl.isEx) = true
    · rw [if_pos hc] at h; exact h.elim
    · rw [if_neg hc] at h; exact KN_unset h2 hc h
  | ct env S =>
    unfold Rs.unset at h
    dsimp only at h
    by_cases hc : ((env.set i .un).any Sl.isEx) = true
    · rw [if_pos hc] at h; exact h.elim
    · rw [if_neg hc] at h; exact KN_unset h3 hc h
  | rt v S => exact fun F' γ' H' e c u vr => h4 _ _ (h F' γ' H' e (CR2.ofNx (M := M) (show CR2 M.nx F' γ' H' _ from CR2.nx (M := M.wx x) c)) u vr)
  | exc e env S => exact h.elim
  | stuck => exact h.elim
/-- a frame's own try, in calm -/
theorem Ct.tr (C : Ct P W N Nv G ls k X) (hc : X.calm = true) {W' : WX} {pn : List (Addr × Obj)} {xe : Value → Shared → Prop} (tk : L2N.Takes (X.tr pn xe) W') (hp : PassesOwn (model X.prog X.w) X.A X.env xe) : Ct P W' N Nv G ls k (X.tr pn xe) :=
  ⟨C.pg, C.hN, C.nd, C.vis, C.glo, C.loc, tk, .inl hc, C.gu, C.rm, hp⟩
theorem md_tr (hc : X.calm = true) {pn : List (Addr × Obj)} {xe : Value → Shared → Prop} : md (X.tr pn xe) = md X := by
  unfold md hxOf
  rw [if_pos (show (X.tr pn xe).calm = true from hc), if_pos hc]
theorem md_calm (hc : X.calm = true) : (md X).hx = none := by
  show hxOf X = none
  unfold hxOf
  rw [if_pos hc]
/-- within an except suite; C0 the class that is handled -/
structure Sui (X : Cx) (C0 : Addr) : Prop where
  ex : ∃ (Y : Cx) (a : Addr) (oe : Obj) (d : Option Addr) (pn : List (Addr × Obj)), X = Y.suite a ((a, oe) :: pn) ∧ L2N.Zn (.ref C0) d oe ∧ ∃ vs, oe.data = .fields vs
theorem Ct.sui (C : Ct P W N Nv G ls k X) {a : Addr} {oe : Obj} {cls : Value} {d : Option Addr} {pn : List (Addr × Obj)} (hz : L2N.Zn cls d oe) (hf : ∃ vs, oe.data = .fields vs) : Ct P W0 N Nv G ls k (X.suite a ((a, oe) :: pn)) := by
  obtain ⟨vs, hv⟩ := hf
  exact ⟨C.pg, C.hN, C.nd, C.vis, C.glo, C.loc, takes0N, .inr ⟨(a, oe), ⟨rfl, vs, hv, hz.2.2 vs hv⟩, by simp⟩, C.gu, ⟨C.rm.dp, C.rm.un⟩, PassesOwn.never⟩
theorem md_sui {a : Addr} {oe : Obj} {cls : Value} {d : Option Addr} {pn : List (Addr × Obj)} (hz : L2N.Zn cls d oe) : md (X.suite a ((a, oe) :: pn)) = (md X).wx (some (a, d)) := by
  unfold md hxOf
  rw [if_neg (show ¬ (X.suite a ((a, oe) :: pn)).calm = true from Bool.false_ne_true)]
  show (⟨X.K, X.mg, (List.find? (fun p => p.1 == a) ((a, oe) :: pn)).map fun p => (a, p.2.dict)⟩ : Md) = _
  rw [List.find?_cons_of_pos (by simp)]
  show (⟨X.K, X.mg, some (a, oe.dict)⟩ : Md) = _
  rw [hz.2.1]
theorem xd_ncell (c : CR2 M F γ H S) {dd : Addr} {fs : List (Str × V)} (h : H dd = some (.xd fs)) : dd ∉ γ := fun m => by
  obtain ⟨kk, hk⟩ := List.getElem?_of_mem m
  have hl : kk < S.length := by rw [← c.len]; exact (List.getElem?_eq_some_iff.mp hk).1
  have := c.cell kk _ dd (List.getElem?_eq_getElem hl) hk
  cases ho : S[kk] with
  | lst xs => rw [ho] at this; obtain ⟨vs, h1, _⟩ := this; rw [h] at h1; cases h1
  | ins c fs => rw [ho] at this; obtain ⟨C, dx, vfs, _, h1, _⟩ := this; rw [h] at h1; cases h1
theorem q_tryAs (C : Ct P W N Nv G ls k X) (hc : X.calm = true) (T : Top X) (i : Nat) {x n : Str} {C0 : Addr} {b₀ : Stmt} {np pos' : Pos} (no : List Str) (j : Nat) (hx : P.mg x = some (.ref C0)) (hself : PySem.W.exmOne P.K (.ref C0) (.ref C0) = some true)
    (hno : ∀ y ∈ no, ∃ cv, P.mg y = some cv ∧ PySem.W.exmOne P.K cv (.ref C0) = some false)
    (hb : ∀ X' W', Ct P W' N Nv G ls k X' → X'.calm = true → Top X' → X'.env.scope = X.env.scope → SSs X' W' B sts m)
    (hsu : ∀ X', Ct P W0 N Nv G ls k X' → Sui X' C0 → X'.env.scope = X.env.scope → SSs X' W0 B (b₀ :: st') h)
    (hi : N[i]? = some n := by rfl) (hl : X.env.kindOf n = some .local) (hg : G[j]? = some x := by rfl) (hdb : (x == ("__debug__" : Str)) = false := by decide) :
    SS X W B (.Try sts [.ExceptHandler (some (.Name x np)) (some n) (b₀ :: st') pos'] [] [] pos) (mTryAs x no i m h) := by
  have pg := C.pg
  subst pg
  have hmd : ∀ (a : Addr) (oe : Obj) (cls : Value) (d : Option Addr) (pn : List (Addr × Obj)), L2N.Zn cls d oe → (∃ vs, oe.data = .fields vs) → PSs (X.suite a ((a, oe) :: pn)) (b₀ :: st') (fun D σ H => cls = .ref C0 ∧ tS ((md X).wx (some (a, d))) W0 B h D σ H) := fun a oe cls d pn hz hf => by
    by_cases ec : cls = .ref C0
    · subst ec
      have q := hsu _ (C.sui hz hf) ⟨X, a, oe, d, pn, rfl, hz, hf⟩ rfl
      unfold SSs at q
      rw [md_sui hz] at q
      exact pss_mono q fun D σ H z => z.2
    · exact pss_mono pss_never fun D σ H z => absurd z.1 ec
  refine ps_mono (L2N.ps_try_as (tb := fun W' => tS (md X) W' B m) (ts := fun a cls d D σ H => cls = .ref C0 ∧ tS ((md X).wx (some (a, d))) W0 B h D σ H) T.1 T.2 (by rw [C.hN]; exact C.nd) (by rw [C.hN]; exact hi) hl ⟨C.glo j x hg, hdb, .inl hx⟩ C.tk
    (fun W' pn xe tk hp => by have q := hb _ W' (C.tr hc tk hp) hc T rfl; unfold SSs at q; rw [md_tr hc] at q; exact q) hmd) ?_
  rintro D σ H ⟨own, F, γ, env, S, s, er, q⟩
  refine ⟨own, F, γ, env, S, s, er, ?_⟩
  unfold mTryAs at q
  cases hm : m env S with
  | nx env' S' => rw [hm] at q; exact q
  | bk env' S' => rw [hm] at q; exact q
  | ct env' S' => rw [hm] at q; exact q
  | rt v S' => rw [hm] at q; exact q
  | stuck => rw [hm] at q; exact q
  | exc e env' S' =>
    rw [hm] at q
    dsimp only at q
    intro own' F' γ' H' σ' cls d s' mo' er' xr
    by_cases ex : e.cls = x
    · rw [if_pos ex] at q
      obtain ⟨xg, xp⟩ := xr
      rw [ex] at xg
      have ecls : cls = .ref C0 := Option.some.inj (xg.symm.trans hx)
      subst ecls
      refine ⟨true, hself, fun _ a ha => ⟨rfl, ?_⟩, fun z => by cases z⟩
      by_cases hi2 : i < env'.length
      · rw [if_pos hi2] at q
        have hnx := md_calm hc
        have er2 : ER ((md X).wx (some (a, d))) own' F' γ' H' (env'.set i (.ex e.place)) (σ'.set i (some (.ref a))) S' := by
          have e1 : ER ((md X).wx (some (a, d))) own' F' γ' H' env' σ' S' := er'.wx (er'.noEx hnx)
          refine ⟨by simp [e1.len], fun jj sl o q1 q2 => ?_, e1.own, e1.c⟩
          by_cases ej : jj = i
          · subst ej
            rw [List.getElem?_set_self hi2] at q1
            rw [List.getElem?_set_self (by rw [← e1.len]; exact hi2)] at q2
            cases q1; cases q2
            refine ⟨.ref a, rfl, a, d, ⟨rfl, fun hq => by rw [hq] at xp; exact xp⟩, rfl, fun qd hq => ?_⟩
            rw [hq] at xp
            obtain ⟨dd, v, g1, g2, g3⟩ := xp
            exact ⟨dd, v, g1, xd_ncell e1.c g2, g2, g3⟩
          · rw [List.getElem?_set_ne (Ne.symm ej)] at q1 q2
            exact e1.slot jj sl o q1 q2
        refine ⟨own', F', γ', _, S', s', er2, ?_⟩
        refine KS_unset (M := md X) (i := i) (D := D) (fun _ _ z => z) (fun _ _ z => z) (fun _ _ z => z) (fun _ _ z => z) (W := W) ?_
        replace q := KS_step mo' q
        revert q
        cases (h (env'.set i (.ex e.place)) S') with
        | nx en S2 => exact fun q => q
        | bk en S2 => exact fun q => q
        | ct en S2 => exact fun q => q
        | rt v S2 => exact fun q => q
        | exc e2 en S2 => exact fun q => q.elim
        | stuck => exact fun q => q.elim
      · rw [if_neg hi2] at q; exact q.elim
    · rw [if_neg ex] at q
      by_cases hn : e.cls ∈ no
      · rw [if_pos hn] at q
        obtain ⟨cv, g1, g2⟩ := hno e.cls hn
        have ecv : cv = cls := Option.some.inj (g1.symm.trans xr.1)
        subst ecv
        exact ⟨false, g2, fun z => by (cases z), fun _ => q own' F' γ' H' σ' cv d s' mo' er' xr⟩
      · rw [if_neg hn] at q; exact q.elim
/-- a try whose body raises nothing -/
def mTry0 (m : MS) : MS := fun env S => match m env S with
  | .exc _ _ _ => .stuck
  | r => r
theorem q_try0 (C : Ct P W N Nv G ls k X) (hc : X.calm = true) (T : Top X) {x : Str} {cv : Value} {b₀ : Stmt} {np pos' : Pos} (j : Nat) (hx : P.mg x = some cv)
    (hb : ∀ X' W', Ct P W' N Nv G ls k X' → X'.calm = true → Top X' → X'.env.scope = X.env.scope → SSs X' W' B sts m)
    (hg : G[j]? = some x := by rfl) (hdb : (x == ("__debug__" : Str)) = false := by decide) :
    SS X W B (.Try sts [.ExceptHandler (some (.Name x np)) none (b₀ :: st') pos'] [] [] pos) (mTry0 m) := by
  have pg := C.pg
  subst pg
  refine ps_mono (L2N.ps_try_many (tb := fun W' => tS (md X) W' B m) (l := [(cv, fun _ _ _ => tNever)]) T.1 T.2 C.tk
    (fun W' pn xe tk hp => by have q := hb _ W' (C.tr hc tk hp) hc T rfl; unfold SSs at q; rw [md_tr hc] at q; exact q) (.cons ⟨C.glo j x hg, hdb, .inl hx⟩ (fun _ _ _ _ _ _ _ => pss_never) .nil)) ?_
  rintro D σ H ⟨own, F, γ, env, S, s, er, q⟩
  refine ⟨own, F, γ, env, S, s, er, ?_⟩
  unfold mTry0 at q
  cases hm : m env S with
  | nx env' S' => rw [hm] at q; exact q
  | bk env' S' => rw [hm] at q; exact q
  | ct env' S' => rw [hm] at q; exact q
  | rt v S' => rw [hm] at q; exact q
  | stuck => rw [hm] at q; exact q
  | exc e env' S' => rw [hm] at q; exact q.elim
/-- e.place within the suite -/
def mPlace (ma : ME) : ME := fun env S => (ma env S).bind fun x S1 => match x with
  | .ex (some p) => .ok (.fr p) S1
  | _ => .stuck
theorem s_place (Z : Sui X C0) (hX : XfC X.K C0) (hno : PySem.W.findIn X.K (.ref C0) "place" = some none) (ha : ES X W a ma) (hb : ∀ env : Env, attributeBase a "place" env (eval a env) = eval a env := by intro _; rfl) : ES X W (.Attribute a "place" pos) (mPlace ma) := by
  obtain ⟨Y, ad, oe, d, pn, rfl, hz, hf⟩ := Z.ex
  refine pe_mono (pe_xf (d := d) hX hno hz.zc hf ha (hb _)) ?_
  rintro σ H Q ⟨own, F, γ, env, S, er, q⟩
  refine ⟨own, F, γ, env, S, er, KE_mono (KG_bindE .refl q) ?_⟩
  rintro u H1 ⟨F1, γ1, S1, x, _, g1, er1, v1, _, q1⟩
  cases x with
  | ex p =>
    cases p with
    | none => exact q1.elim
    | some p =>
      obtain ⟨a', d', ⟨h1, _⟩, rfl, h3⟩ := v1
      rw [md_sui hz] at h1
      cases h1
      obtain ⟨dd, v, k1, k2, k3, k4⟩ := h3 p rfl
      exact ⟨rfl, rfl, dd, _, v, k1, k3, rfl, q1 F1 γ1 H1 g1 er1 v k4⟩
  | _ => exact q1.elim
end
end TL
end

section
set_option Elab.async false
set_option linter.all false
set_option maxRecDepth 100000
set_option maxHeartbeats 1000000
namespace TL
open PySem PySem.Spec PyProof.Rows L2

/-- the law says True at the script ns -/
def Says (mf : MF) (ns : List Int) : Prop := ∃ S, mf [.sc ns] [] = .ok (.fr (.bool true)) S
abbrev SayT : VK := fun v _ => v = .bl true
abbrev NoX : XK := fun _ _ _ => False
theorem says_sp {M : Md} {mf : MF} {ns : List Int} {H : Hp} {a : Addr} (h : Says mf ns) (hS : SqS M.K H a (ns.map V.int)) : spM M 1 mf [.ref a] H SayT NoX := by
  obtain ⟨S, hs⟩ := h
  refine ⟨rfl, fun _ => False, [], [], [.sc ns], ⟨fun _ z => z.elim, rfl, .nil, fun _ m => (nomatch m), fun kk ob p z => by simp at z⟩, .cons ⟨a, rfl, hS⟩ .nil, ?_⟩
  rw [hs]
  intro F' γ' H' _ _ u vr
  have vr : Rp M.K F' H' (.bool true) u := vr
  simpa [Rp] using vr
/-- the entry in a heap of which H is tracked: nothing, or the script -/
theorem entry_of {P : Program} {w : World} {K : PySem.W.Frag} {mg mb : Str → Option Value} {t : Shared} {H : Hp} {sc : Addr} {so : Obj} (kin : K.In t.heap) (nsg : t.heap.Ns mainGlobals mg) (nsb : t.heap.Ns builtinsNs mb) (bb : ∀ x : Str, x ≠ "__name__" → mb x = bootBuiltins x)
    (nl : t.heap.NoLimit) (gs : t.gens = #[]) (hok : HOk P w H t.heap) (only : ∀ b, H b ≠ none → b = sc) (hso : t.heap.get? sc = some so) (nd : ∀ es ep, so.data ≠ .dict es ep) (nK : H sc ≠ none → K.lookup sc = none) :
    K.In (hidT t.heap H) ∧ (hidT t.heap H).Ns mainGlobals mg ∧ Env0 P w K mg (hidT t.heap H) callerA [] t H := by
  have unT : ∀ (b : Addr) (o : Obj), t.heap.get? b = some o → (H b ≠ none → False) → (hidT t.heap H).get? b = some o := fun b o e n => hidT_get e (Classical.byContradiction n)
  have spaces : ∀ (b : Addr) (m : Str → Option Value), t.heap.Ns b m → (hidT t.heap H).Ns b m := by
    rintro b m ⟨o, es, ep, e, d, r⟩
    refine ⟨o, es, ep, unT b o e fun n => ?_, d, r⟩
    have eb := only b n
    subst eb
    rw [hso] at e
    cases e
    exact nd es ep d
  have k2 : K.In (hidT t.heap H) := fun b o e => unT b o (kin b o e) fun n => by
    have eb := only b n
    subst eb
    rw [nK n] at e
    cases e
  obtain ⟨ml, l1, l2⟩ := nl
  refine ⟨k2, spaces _ _ nsg, rfl, ⟨k2, spaces _ _ nsg, ⟨mb, spaces _ _ nsb, bb⟩, ⟨ml, spaces _ _ l1, l2⟩⟩, fun b o e => of_hidT e, ?_, trivial, fun b z => ?_, hok, .of_eq gs⟩
  · rw [hidT_size]; exact Nat.le_refl _
  · cases z
theorem law_run {P : Program} {w : World} {K : PySem.W.Frag} {mg mb : Str → Option Value} {cb : Bool} {k : Nat} {fa sc : Addr} {fd : FuncData} {x : Str} {mf : MF} {t : Shared} {vs : List Value} {ns : List Int}
    (kin : K.In t.heap) (nsg : t.heap.Ns mainGlobals mg) (nsb : t.heap.Ns builtinsNs mb) (bb : ∀ x : Str, x ≠ "__name__" → mb x = bootBuiltins x) (nl : t.heap.NoLimit) (gs : t.gens = #[])
    (hsc : t.heap.get? sc = some { cls := .type "list", data := .seq vs.toArray }) (hi : IntsAre vs ns) (hl : ns.length ≤ sizeLine) (hr : L2H.RoomH k callerA)
    (Fn : ∀ base : Heap, K.In base → base.Ns mainGlobals mg → FnG ⟨P, w, K, mg, base⟩ cb k fa fd [x] mf) (hbind : ∀ (s : Shared) (u : Value), BindsTo s fd ⟨[u], []⟩ [(x, u)]) (hs : Says mf ns) :
    codeAny (model P w) callerA (.call (.ref fa) ⟨[.ref sc], []⟩) (fun r s' => r = .ok (.ret (.bool true)) ∧ OldK t.heap s'.heap ∧ s'.os = t.os ∧ AllBare s'.gens) t := by
  have rel := vals_ints hi
  have body : ∀ H : Hp, HOk P w H t.heap → (∀ b, H b ≠ none → b = sc) → (∀ b, H b = none ∨ ∃ o xs, H b = some (.frz o (.lst xs))) → (H sc ≠ none → K.lookup sc = none) → SqS K H sc (ns.map V.int) →
      codeAny (model P w) callerA (.call (.ref fa) ⟨[.ref sc], []⟩) (fun r s' => r = .ok (.ret (.bool true)) ∧ OldK t.heap s'.heap ∧ s'.os = t.os ∧ AllBare s'.gens) t := fun H hok only shape nK hS => by
    obtain ⟨k2, n2, e0⟩ := entry_of kin nsg nsb bb nl gs hok only hsc (fun es ep z => by cases z) nK
    refine codeAny_mono ((Fn _ k2 n2).run callerA [] t H ⟨[.ref sc], []⟩ [.ref sc] [.ref sc] SayT NoX hr rfl (.inl rfl) e0 (hbind t (.ref sc)) (.cons rfl .nil) (says_sp hs hS)) fun r s' out => ?_
    cases r with
    | error e =>
      obtain ⟨_, _, _, _, _, _, _, _, _, _, _, _, z⟩ := out
      exact z.elim
    | ok fl =>
      cases fl with
      | ret u =>
        obtain ⟨v, H', os, bare, un, hok', r', rfl⟩ := out
        cases r'
        refine ⟨rfl, OldK.of_keep fun b o e => ?_, os, bare⟩
        rcases shape b with n | ⟨ob, xs, n⟩
        · exact un.keep b o e n (fun z => nomatch z) (by simp)
        · have old := (hok b _ n).1
          rw [e] at old
          cases old
          exact (hok' b _ (un.frzs b _ _ n)).1
      | next => exact out.elim
      | brk => exact out.elim
      | cont => exact out.elim
  rcases hk : K.lookup sc with _ | o
  · have pick : ∀ b, (fun b => if b = sc then some (HO.frz { cls := .type "list", data := .seq vs.toArray } (.lst (ns.map V.int))) else none) b ≠ none → b = sc := fun b n => Classical.byContradiction fun z => n (if_neg z)
    refine body (fun b => if b = sc then some (.frz { cls := .type "list", data := .seq vs.toArray } (.lst (ns.map V.int))) else none) (fun b u z => ?_) pick (fun b => ?_) (fun _ => hk) (.inl ⟨_, if_pos rfl⟩)
    · have eb := pick b (by rw [z]; exact fun z => nomatch z)
      subst eb
      have z := (if_pos rfl).symm.trans z
      cases z
      exact ⟨hsc, by rw [List.length_map]; exact hl, vs, _, rel, hsc⟩
    · by_cases eb : b = sc
      · exact .inr ⟨_, _, if_pos eb⟩
      · exact .inl (if_neg eb)
  · have e := kin sc o hk
    rw [hsc] at e
    cases e
    exact body (fun _ => none) (fun _ _ z => nomatch z) (fun _ n => absurd rfl n) (fun _ => .inl rfl) (fun n => absurd rfl n) (.inr ⟨_, vs.toArray, _, hk, rfl, rfl, rfl, by rw [List.size_toArray, hi.length]; exact hl, by simpa using rel⟩)
/-- what the head leaves of a law -/
theorem walkG {l : PySem.W.OpenLaw} {n k : Nat} {q : Program} {loose : List Str} {XP : (Str → Option Value) → Heap → Prop} {YP : World → Heap → Prop} {d : DefRec} {K : Params → PySem.W.Frag} {x : Str} {cb : Bool} {mf : MF}
    (hn : l.most = some n) (hn2 : n ≤ sizeLine) (hdf : d.params.defaults = []) (hr : L2H.RoomH k callerA) (hY : ∀ (w : World) (h : Heap), YP w h → (K w.params).In h)
    (Fn : ∀ (w : World) (mg : Str → Option Value) (fa : Addr) (h : Heap), (K w.params).In h → h.Ns mainGlobals mg → mg d.name = some (.ref fa) →
      ∃ fd : FuncData, (∀ (s : Shared) (u : Value), BindsTo s fd ⟨[u], []⟩ [(x, u)]) ∧ ∀ base : Heap, (K w.params).In base → base.Ns mainGlobals mg → FnG ⟨l.prog, w, K w.params, mg, base⟩ cb k fa fd [x] mf)
    (hs : ∀ ns : List Int, ns.length ≤ n → Says mf ns) : PySem.W.WalkO q loose XP YP l.row.toRowW d [] (fun f vs => PySem.call f vs) := by
  refine Att.attach_call hn hdf fun w s₀ s₁ mg mb fa o pm cd doc a vs ns G Y _ _ _ hmg ha hi hl hg => ?_
  have kin := hY w _ Y
  obtain ⟨fd, hb, hF⟩ := Fn w mg fa _ kin G.T.g hmg
  exact law_run kin G.T.g G.T.b G.T.builtins G.T.nolimit hg ha hi (Nat.le_trans hl hn2) hr hF hb (hs ns hl)
/-- a def of the text that may be called -/
theorem cal_of {P : Pg} {cb : Bool} {k : Nat} {f : Addr} {x : Str} {st : Stmt} {kV doc pm cdv ct oc : Value} {an od : Option Addr} {osl : Array (Option Value)} {N Nv G ps : List Str} {ls : List Nat} {m : MS}
    (hm : P.mg x = some (.ref f)) (hk : PySem.W.keepIn P.K (.ref f) = true) (lk : P.K.lookup f = some ⟨oc, od, .func (PySem.W.fnOf x x (defArgs st) (defBody st) (defScope st) .none kV doc pm an cdv ct), osl⟩) (hcd : PySem.W.codeIn P.K cdv x = true) (S : FnScope N ps (defScope st))
    (hck : ckS (defScope st).names (defScope st).names N Nv G ls = true)
    (hb : ∀ us : List Value, us.length = ps.length → bindArgs (PySem.W.fnOf x x (defArgs st) (defBody st) (defScope st) .none kV doc pm an cdv ct) ⟨us, []⟩ = pure (ps.zip us))
    (hbody : ∀ (X : Cx) (W : WX) (B : Bs), Ct P W N Nv G ls k X → (cb = true → X.calm = true) → Top X → X.env.scope = defScope st → SSs X W B (defBody st) m) : Cal P cb (k + 1) x (mFn ps.length N.length m) :=
  ⟨f, _, ps, hm, hk, .all hb, fnG_of lk hcd S hck hbody, fun xs S h => mFn_len xs S h⟩
end TL
end

section
set_option Elab.async false
set_option linter.all false
set_option maxRecDepth 100000
set_option maxHeartbeats 1000000
namespace TL
open PySem PySem.Spec PyProof.Rows L2

section
variable {X : Cx} {W : WX} {B : Bs} {N Nv Nv' G G' : List Str} {ls ls' : List Nat} {P : Pg} {k : Nat} {M : Md} {own own' : Addr → Option Nat} {F F' F1 F2 Fs Fs' : Addr → Prop} {γ γ' γ1 γ2 : List Addr} {H H' H0 H1 H2 Hs Hs' : Hp} {env env' env2 : En} {σ σ' σ2 : L2.St} {S S' S1 : Sto} {r : Vl} {u : V} {Q : VK} {D : Ends}
variable {a b c e o : Expr} {es : List Expr} {ma mb mc mo : ME} {mr : MA} {mt mu : MT} {pos : Pos} {st : Stmt} {sts : List Stmt} {m m' h : MS}

theorem Ct.mk' (C : Ct P W N Nv G ls k X) {x : Str} {v : Option Value} (h : P.mg x = v) : X.mg x = v := by
  have pg := C.pg
  subst pg
  exact h
theorem s_globE (C : Ct P W N Nv G ls k X) (i : Nat) {x : Str} {n : Int} (h : ∃ t, P.mg x = some (.int n t)) (hg : G[i]? = some x := by rfl) (hd : (x == ("__debug__" : Str)) = false := by decide) : ES X W (.Name x pos) (mC (.int n)) := by
  obtain ⟨t, h⟩ := h
  exact s_glob C i (C.mk' h) hg hd

/-! ### dict displays of constants -/
def mDct0 : ME := fun _ S => .ok (.ow (.dict [])) S
theorem s_dct0 : ES X W (.Dict [] [] pos) mDct0 := pe_mono pe_dnewK fun σ H Q ⟨own, F, γ, env, S, er, q⟩ p hp =>
  q F γ _ (EG.new hp) (er.new hp) _ ⟨p, rfl, er.pF hp, er.pO hp, er.pG hp, hp, [], ⟨[], upd_same, rfl⟩, by simp [RpKv]⟩
def mDctI (i j : Int) : ME := fun _ S => .ok (.ow (.dict [(.int i, .int j)])) S
theorem s_dctI {i j : Int} {k1 k2 : Nat} {p1 p2 : Pos} : ES X W (.Dict [some (.Constant (.int i) k1 p1)] [.Constant (.int j) k2 p2] pos) (mDctI i j) :=
  pe_mono (pe_disp (pps_cons pe_int pe_int pps_nil) rfl rfl (fun z => nomatch z) (by show 1 ≤ 15; decide)) fun σ H Q ⟨own, F, γ, env, S, er, q⟩ p hp => by
    refine ⟨upd_same, [(.inl i, .int j)], rfl, by show 1 ≤ 15; decide, ?_⟩
    rw [upd_upd]
    exact q F γ _ (EG.new hp) (er.new hp) _ ⟨p, rfl, er.pF hp, er.pO hp, er.pG hp, hp, [(.int i, .int j)], ⟨_, upd_same, rfl⟩, .int i, .int j, [], rfl, by simp [Rp], by simp [Rp], by simp [RpKv]⟩

/-! ### methods -/
theorem VR.meth {d : PyData} {pins : List (Addr × Obj)} {s : Shared} {v : Value} (h : VR (md X) own H0 F γ H r u) (hd : r.dat = some d) (I : Inv X pins σ H s) (rv : RelV u v) (hn : ∀ b, d ≠ .bool b) (hn2 : d ≠ .none) :
    s.TypeIs v (tyName d) ∧ ∀ a, v = .ref a → ∃ ob, s.heap.get? a = some ob ∧ ob.dict = none := by
  cases d with
  | list ds =>
    obtain ⟨p, xs, rfl, h1, _⟩ := h.lst hd
    exact tyV_is I rv (T := "list") (.inl ⟨rfl, xs, .of h1⟩)
  | int i => rw [h.int hd] at rv; exact tyV_is I rv (T := "int") rfl
  | str i => rw [h.str hd] at rv; exact tyV_is I rv (T := "str") rfl
  | tuple ds =>
    obtain ⟨p, xs, rfl, h1, _⟩ := h.tup hd
    cases rv
    obtain ⟨its, _, ⟨o, ho, hc, _⟩, _⟩ := I.tuple h1.t
    exact ⟨⟨o, ho, hc⟩, fun a e => by cases e; exact h1.nodict I⟩
  | dict kvs =>
    have : ∃ p ks, u = .ref p ∧ H p = some (.dK ks) := by
      cases r with
      | fr d' => cases hd; have h : Rp _ _ _ _ _ := h; simp only [Rp] at h; obtain ⟨p, es, rfl, _, ⟨ks, h1, _⟩, _⟩ := h; exact ⟨p, ks, rfl, h1⟩
      | ow d' => cases hd; obtain ⟨p, rfl, _, _, _, _, es, ⟨ks, h1, _⟩, _⟩ := h; exact ⟨p, ks, rfl, h1⟩
      | bo i d' => cases hd; obtain ⟨p, rfl, _, _, _, es, ⟨ks, h1, _⟩, _⟩ := h; exact ⟨p, ks, rfl, h1⟩
      | rf k => cases hd
      | sc ns => cases hd
      | ex p => cases hd
    obtain ⟨p, ks, rfl, h1⟩ := this
    exact tyV_is I rv (T := "dict") (.inr (.inr (.inl ⟨rfl, .inl ⟨ks, h1⟩⟩)))
  | bool b => exact absurd rfl (hn b)
  | none => exact absurd rfl hn2
def isT (T : String) (x : Vl) : Bool := match x.dat with
  | some (.bool _) => false
  | some .none => false
  | some d => tyName d == T
  | none => false
theorem isT_ok {T : String} {x : Vl} (h : isT T x = true) : ∃ d, x.dat = some d ∧ tyName d = T ∧ (∀ b, d ≠ .bool b) ∧ d ≠ .none := by
  unfold isT at h
  split at h
  · cases h
  · cases h
  · rename_i d h1 h2 hd
    exact ⟨d, hd, by simpa using h, fun b e => h1 b e, fun e => h2 e⟩
  · cases h
def mMeth (T : String) (op : List Vl → Option Vl) (mo : ME) (mr : MA) : ME := fun env S => (mo env S).bind fun x S1 => if isT T x then (mr env S1).bind fun xs S2 => optL op (x :: xs) S2 else .stuck
theorem s_meth {T id : String} {name : Str} {apos cpos : Pos} {op : List Vl → Option Vl} (pa : PlainAttrs T) (slot : Slot T name id) (hty : typeOf (.builtin id) = pure (.type "method_descriptor")) (hm : CallD X (.builtin id) op) (ho : ES X W o mo) (ha : EA X W (e :: es) mr)
    (hbase : attributeBase o name X.env (eval o X.env) = eval o X.env := by rfl)
    (hfew : ((backTo cpos (starEach (e :: es) X.env)).all (fun x => !x.1) && (backToKw cpos (keywordEach [] X.env)).all (fun x => x.1.isSome)
      && decide ((e :: es).length + ([] : List Keyword).length + (if ([] : List Keyword).isEmpty then 0 else 1) < 30)) = true := by rfl)
    (hline : (apos.endLine == cpos.line) = true := by rfl) (hs : starEach (e :: es) X.env = (false, eval e X.env) :: starEach es X.env := by rfl) (hplain : (backTo cpos (starEach es X.env)).any (·.1) = false := by rfl) :
    ES X W (.Call (.Attribute o name apos) (e :: es) [] cpos) (mMeth T op mo mr) := by
  refine ⟨fun pins s σ H Q I h => ?_⟩
  obtain ⟨own, F, γ, env, S, er, q⟩ := h
  refine wpAny_Call_method_late hbase hfew hline rfl (thn (ho.run pins s σ H _ I ⟨own, F, γ, env, S, er, KE_mono (KG_bindE .refl q) fun u H' z => z⟩) fun v s1 ⟨x, H1, I1, r1, q1⟩ => ?_)
  obtain ⟨F1, γ1, S1, xv, _, g1, er1, v1, _, q1⟩ := q1
  by_cases hT : isT T xv = true
  · rw [if_pos hT] at q1
    obtain ⟨d, hd, hdT, n1, n2⟩ := isT_ok hT
    obtain ⟨h1, h2⟩ := v1.meth hd I1 r1 n1 n2
    rw [hdT] at h1
    refine ⟨T, id, pa, slot, hty, h1, h2, ?_⟩
    have hA := ha.run cpos pins s1 σ H1 (fun us H2 => ∃ F2 γ2 S2 rs, EG F γ H F2 γ2 H2 ∧ ER (md X) own F2 γ2 H2 env σ S2 ∧ Paired (VR (md X) own H F2 γ2 H2) (xv :: rs) (x :: us) ∧ KE (md X) W own F γ H env σ (optL op (xv :: rs) S2) Q) I1
      ⟨own, F1, γ1, env, S1, er1, KG_mono (KG_bindA g1 q1) fun rs F' γ' H' S' e' er' q2 us vs => by
        obtain ⟨F2, γ2, S2, rs2, e2, g2, er2, p2, p3, q3⟩ := q2 us vs
        exact ⟨F2, γ2, S2, rs2, g2, er2, .cons (v1.mono e2) p2, q3⟩⟩
    rw [hs] at hA ⊢
    refine Calls.callWith_builtin (by show (false || (backTo cpos (starEach es X.env)).any (·.1)) = false; rw [hplain] <;> rfl) (Calls.evalArgs_plain ?_)
    refine thn hA fun us s2 ⟨vs, H2, I2, r2, F2, γ2, S2, rs, g2, er2, p2, q2⟩ => ?_
    unfold optL at q2
    cases hop : op (xv :: rs) with
    | none => rw [hop] at q2; exact q2.elim
    | some z =>
      rw [hop] at q2
      exact hm pins s2 σ H2 H own F2 γ2 env σ S2 (xv :: rs) z (x :: vs) (v :: us) Q I2 (.cons r1 r2) (fun a h => g2.back h) er2 p2 hop fun F' H' w' g er' vr => q2 F' γ2 H' (g2.trans g) er' w' vr
  · rw [if_neg hT] at q1; exact q1.elim
/-- ints of a tuple -/
def intsOf : List PyData → Option (List Int)
  | [] => some []
  | .int i :: r => (intsOf r).map (i :: ·)
  | _ :: _ => none
theorem intsOf_are {K : PySem.W.Frag} : ∀ {ds : List PyData} {ns : List Int} {xs : List V} {us : List Value}, intsOf ds = some ns → RpAll K F H ds xs → Vals xs us → IntsAre us ns
  | [], ns, xs, us, h, hr, hv => by
    cases h
    simp only [RpAll] at hr
    subst hr
    cases hv
    exact .nil
  | d :: ds, ns, xs, us, h, hr, hv => by
    simp only [RpAll] at hr
    obtain ⟨v, r, rfl, h1, h2⟩ := hr
    cases d with
    | int i =>
      obtain ⟨ns', h3, rfl⟩ := Option.map_eq_some_iff.mp (show (intsOf ds).map (i :: ·) = some ns from h)
      cases hv with
      | cons rv tv =>
        have e : v = .int i := by simpa [Rp] using h1
        subst e
        obtain ⟨t, rfl⟩ := rv
        exact .cons i t (intsOf_are h3 h2 tv)
    | _ => cases h
def vIndex (x y : Vl) : Option Vl := match x.dat, y.dat with
  | some (.tuple ds), some (.int k) => match intsOf ds with
    | some ns => if k ∈ ns then some (.fr (.int (ns.idxOf k : Nat))) else none
    | none => none
  | _, _ => none
theorem d_index : CallD X (.builtin "tuple.index") (on2 vIndex) := by
  intro pins s σ H H0 own F γ env σ' S xs z us uus Q I rr h0 er vr ho q
  obtain ⟨x, y, rfl, ho⟩ := on2_some ho
  obtain ⟨u, w, rfl, v1, v2⟩ := paired2 vr
  have ho : vIndex x y = some z := ho
  unfold vIndex at ho
  split at ho
  · rename_i ds kk hx hy
    split at ho
    · rename_i ns hns
      by_cases hk : kk ∈ ns
      · rw [if_pos hk] at ho
        cases ho
        obtain ⟨p, xs, rfl, h1, h2⟩ := v1.tup hx
        rw [v2.int hy] at rr
        cases rr with
        | cons r1 rr =>
          cases rr with
          | cons r2 rr =>
            cases rr
            cases r1
            obtain ⟨t, rfl⟩ := r2
            obtain ⟨its, rv, hT, _⟩ := I.tuple h1.t
            exact PySem.SeqAt.tuple_index_ints hT (intsOf_are hns h2 rv) hk ⟨.int (ns.idxOf kk : Nat), H, I.tok _, ⟨_, rfl⟩, q F H _ .refl er (by simp [VR, Rp])⟩
      · rw [if_neg hk] at ho; cases ho
    · cases ho
  · cases ho

/-! ### the exception that is handled, told its class -/
structure HxC (X : Cx) (D : Addr) : Prop where
  ex : ∃ (p : Addr × Obj), X.calm = false ∧ X.pn = [p] ∧ X.A.handled = some (.ref p.1) ∧ L2.Zc (.ref D) none p.2 ∧ ∃ vs, p.2.data = .fields vs
theorem call_isX {D : Addr} (Z : HxC X D) (C : ExcC X.K D) : ∃ p : Addr, (md X).hx = some (p, none) ∧ CallR X (.builtin "isinstance") (rIsE X.K D p) := by
  obtain ⟨⟨a, oe⟩, hcalm, hpn, hh, hz, hf⟩ := Z.ex
  refine ⟨a, ?_, ?_⟩
  · show hxOf X = _
    unfold hxOf
    rw [if_neg (by rw [hcalm]; exact Bool.false_ne_true), hh, hpn]
    show (List.find? (fun p => p.1 == a) [(a, oe)]).map _ = _
    rw [List.find?_cons_of_pos (by simp)]
    show some (a, oe.dict) = _
    rw [hz.2]
  · have key : X.nox = X.suite a ((a, oe) :: []) := by
      cases X with
      | mk prog w K mg base A N s_0 H_0 env outer stack ex fn calm pn xe =>
        simp only at hcalm hpn hh
        subst hcalm hpn
        have : A.mark (some (.ref a)) = A := by
          cases A
          simp only at hh
          subst hh
          rfl
        show Cx.mk _ _ _ _ _ A _ _ _ _ _ _ _ _ _ _ _ = Cx.mk _ _ _ _ _ (A.mark (some (.ref a))) _ _ _ _ _ _ _ _ _ _ _
        rw [this]
    intro pins s σ H xs us Q I r h
    have q := call_isE (X := X) (a := a) (D := D) (oe := oe) (pn := []) C hz hf
    rw [← key] at q
    exact wpAny_mono (q pins s σ H xs us Q (I.wish _) r h) (fun v s' ⟨x, H', J, r', z⟩ => ⟨x, H', J.unwish, r', z⟩) fun _ _ z => z.elim
def mExIs (b : Bool) (ma : ME) : ME := fun env S => (ma env S).bind fun x S1 => match x with
  | .ex _ => .ok (.fr (.bool b)) S1
  | _ => .stuck
theorem s_exIs (C : Ct P W N Nv G ls k X) {D : Addr} (Z : HxC X D) (E : ExcC X.K D) {t : Str} {p p2 : Pos} {cv : Value} {cV : V} {bb : Bool} (i : Nat) (hm : X.mg "isinstance" = none) (ha : ES X W a ma) (ht : PE X (.Name t p2) (tC cV)) (hcv : ∀ u, RelV cV u → u = cv) (hk : PySem.W.kitOne X.K (.ref D) cv = some bb)
    (hg : G[i]? = some "isinstance" := by rfl) (he : starEach [a, .Name t p2] X.env = (false, eval a X.env) :: starEach [.Name t p2] X.env := by rfl) (hpl : (backTo pos (starEach [.Name t p2] X.env)).any (·.1) = false := by rfl) :
    ES X W (.Call (.Name "isinstance" p) [a, .Name t p2] [] pos) (mExIs bb ma) := by
  obtain ⟨ad, hx, hcall⟩ := call_isX Z E
  refine pe_mono (pe_callB hcall (C.glo i _ hg) hm (by decide +kernel) (pa_cons ha (pa_cons ht pa_nil) he) (by decide) (by decide) he hpl) ?_
  rintro σ H Q ⟨own, F, γ, env, S, er, q⟩
  refine ⟨own, F, γ, env, S, er, KE_mono (KG_bindE .refl q) ?_⟩
  rintro u H1 ⟨F1, γ1, S1, x, _, g1, er1, v1, _, q1⟩
  cases x with
  | ex pl =>
    obtain ⟨a', d', ⟨h1, _⟩, rfl, _⟩ := v1
    rw [hx] at h1
    cases h1
    exact ⟨cV, cv, bb, rfl, hcv, hk, q1 F1 γ1 H1 g1 er1 _ (by simp [VR, Rp])⟩
  | _ => exact q1.elim
end
end TL
end

section
set_option Elab.async false
set_option linter.all false
set_option maxRecDepth 100000
set_option maxHeartbeats 1000000
namespace TL
open PySem PySem.Spec PyProof.Rows L2 RZ

section
variable {X : Cx} {W : WX} {B : Bs} {N Nv Nv' G G' : List Str} {ls ls' : List Nat} {P : Pg} {k : Nat} {M : Md} {own own' : Addr → Option Nat} {F F' F1 F2 Fs Fs' : Addr → Prop} {γ γ' γ1 γ2 : List Addr} {H H' H0 H1 H2 Hs Hs' : Hp} {env env' env2 : En} {σ σ' σ2 : L2.St} {S S' S1 : Sto} {r : Vl} {u : V} {Q : VK} {D : Ends}
variable {a b c e o : Expr} {es : List Expr} {ma mb mc mo : ME} {mr : MA} {mt mu : MT} {pos : Pos} {st : Stmt} {sts : List Stmt} {m m' h : MS}

theorem it_zipT {K : PySem.W.Frag} {p q : Addr} {ds es : List PyData} {xs ys : List V} (h1 : SqT1 K H p xs) (h2 : RpAll K F H ds xs) (h3 : SqT1 K H q ys) (h4 : RpAll K F H es ys) : ItOk true K F H (ItzT K p q) (zipL ds es) := by
  have l1 := RpAll.length h2
  have l2 := RpAll.length h4
  have lz := zipL_len ds es
  refine ⟨fun i F' H' hi mo => ?_, fun F' H' mo => ?_, fun i F' H1 x H2 hi mo y => ?_⟩
  · have i1 : i < xs.length := by omega
    have i2 : i < ys.length := by omega
    exact ⟨xs, ys, xs[i], ys[i], (mo.sqT h1).t, (mo.sqT h3).t, List.getElem?_eq_getElem i1, List.getElem?_eq_getElem i2⟩
  · exact ⟨xs, ys, (mo.sqT h1).t, (mo.sqT h3).t, by omega⟩
  · obtain ⟨T, x', y', rfl, hT, rfl, f1, f2⟩ := y
    obtain ⟨d, hd, r1⟩ := rp_get (RpAll.mono mo ds xs h2) (f1 xs (mo.sqT h1).t)
    obtain ⟨e, he, r2⟩ := rp_get (RpAll.mono mo es ys h4) (f2 ys (mo.sqT h3).t)
    exact ⟨_, zipL_get hd he, T, x', y', d, e, rfl, hT, rfl, rfl, r1, r2⟩
theorem it_zipL {K : PySem.W.Frag} {p q : Addr} {ds es : List PyData} {xs ys : List V} (f1 : F p) (h1 : H p = some (.lst xs)) (h2 : RpAll K F H ds xs) (f2 : F q) (h3 : H q = some (.lst ys)) (h4 : RpAll K F H es ys) : ItOk true K F H (Itz K p q) (zipL ds es) := by
  have l1 := RpAll.length h2
  have l2 := RpAll.length h4
  have lz := zipL_len ds es
  have s1 : ∀ F' H', Mo F H F' H' → SqL K H' p xs := fun F' H' mo => .inl (.inl (mo.keepF p _ h1 f1))
  have s2 : ∀ F' H', Mo F H F' H' → SqL K H' q ys := fun F' H' mo => .inl (.inl (mo.keepF q _ h3 f2))
  refine ⟨fun i F' H' hi mo => ?_, fun F' H' mo => ?_, fun i F' H1 x H2 hi mo y => ?_⟩
  · have i1 : i < xs.length := by omega
    have i2 : i < ys.length := by omega
    exact ⟨xs, ys, xs[i], ys[i], s1 _ _ mo, s2 _ _ mo, List.getElem?_eq_getElem i1, List.getElem?_eq_getElem i2⟩
  · exact ⟨xs, ys, s1 _ _ mo, s2 _ _ mo, by omega⟩
  · obtain ⟨T, x', y', rfl, hT, rfl, g1, g2⟩ := y
    obtain ⟨d, hd, r1⟩ := rp_get (RpAll.mono mo ds xs h2) (g1 xs (s1 _ _ mo))
    obtain ⟨e, he, r2⟩ := rp_get (RpAll.mono mo es ys h4) (g2 ys (s2 _ _ mo))
    exact ⟨_, zipL_get hd he, T, x', y', d, e, rfl, hT, rfl, rfl, r1, r2⟩
def vZip (xs : List Vl) : Option (List PyData) := match frzL xs with
  | some [.tuple ds, .tuple es] => some (zipL ds es)
  | some [.list ds, .list es] => some (zipL ds es)
  | _ => none
def mZip (mr : MA) : MI := fun env S => (mr env S).bind fun xs S1 => match vZip xs with
  | some ds => .ok ds S1
  | none => .stuck
theorem tI_zip {R : It → Hp → Prop} (h : tI true M W (mZip mr) σ H R) : tA M W mr σ H fun vs H1 => ∃ a b xs ys, vs = [.ref a, .ref b] ∧ ((SqL M.K H1 a xs ∧ SqL M.K H1 b ys ∧ R (Itz M.K a b) H1) ∨ (SqT M.K H1 a xs ∧ SqT M.K H1 b ys ∧ R (ItzT M.K a b) H1)) := by
  obtain ⟨own, F, γ, env, S, er, q⟩ := h
  refine ⟨own, F, γ, env, S, er, KG_mono (KG_bindA .refl q) ?_⟩
  intro rs F' γ' H' S' e' er' q2 us vs
  obtain ⟨F2, γ2, S2, rs2, e2, g2, er2, p2, p3, q3⟩ := q2 us vs
  cases ho : vZip rs2 with
  | none => rw [ho] at q3; exact q3.elim
  | some zs =>
    rw [ho] at q3
    unfold vZip at ho
    split at ho
    · rename_i ds es hf
      cases ho
      obtain ⟨F3, m3, er3, rp, hfr⟩ := freezeL er2 p2 hf
      simp only [RpAll] at rp
      obtain ⟨u1, r1, rfl, rp1, u2, r2, rfl, rp2, rfl⟩ := rp
      simp only [Rp] at rp1 rp2
      obtain ⟨p, xs, rfl, h1, h2⟩ := rp1
      obtain ⟨q, ys, rfl, h3, h4⟩ := rp2
      exact ⟨p, q, xs, ys, rfl, .inr ⟨h1.t, h3.t, q3 F3 γ2 _ (g2.frz m3 hfr) er3 _ (it_zipT h1 h2 h3 h4)⟩⟩
    · rename_i ds es hf
      cases ho
      obtain ⟨F3, m3, er3, rp, hfr⟩ := freezeL er2 p2 hf
      simp only [RpAll] at rp
      obtain ⟨u1, r1, rfl, rp1, u2, r2, rfl, rp2, rfl⟩ := rp
      simp only [Rp] at rp1 rp2
      obtain ⟨p, xs, rfl, ⟨f1, h1⟩, h2⟩ := rp1
      obtain ⟨q, ys, rfl, ⟨f2, h3⟩, h4⟩ := rp2
      exact ⟨p, q, xs, ys, rfl, .inl ⟨.inl (.inl h1), .inl (.inl h3), q3 F3 γ2 _ (g2.frz m3 hfr) er3 _ (it_zipL f1 h1 h2 f2 h3 h4)⟩⟩
    · cases ho
theorem i_zip (C : Ct P W N Nv G ls k X) {p tpos pos' : Pos} {elts : List Expr} {kk : Nat} (i : Nat) (hm : X.mg "zip" = none) (ha : ES X W a ma) (hb : ES X W b mb) (hg : G[i]? = some "zip" := by rfl)
    (hs : starEach [a, b] X.env = (false, eval a X.env) :: starEach [b] X.env := by rfl) (hs2 : starEach [b] X.env = (false, eval b X.env) :: starEach [] X.env := by rfl) (hpl : (backTo pos' (starEach [b] X.env)).any (·.1) = false := by rfl) :
    EI true X W (.Tuple elts kk tpos) (.Call (.Name "zip" p) [a, b] [] pos') (mZip (mCons ma (mCons mb mNil))) := fun _ =>
  pi_mono (pi_zipA (C.glo i "zip" hg) hm (s_acons ha (s_acons hb s_anil hs2) hs) hs hpl) fun σ H R h => tI_zip h
/-- enumerate of a list -/
def enumL : Nat → List PyData → List PyData
  | _, [] => []
  | n, d :: ds => .tuple [.int (n : Nat), d] :: enumL (n + 1) ds
theorem enumL_len : ∀ (ds : List PyData) (n : Nat), (enumL n ds).length = ds.length
  | [], n => rfl
  | d :: ds, n => by simp only [enumL, List.length_cons, enumL_len ds (n + 1)]
theorem enumL_get : ∀ {ds : List PyData} {n i : Nat} {d : PyData}, ds[i]? = some d → (enumL n ds)[i]? = some (.tuple [.int ((n + i : Nat) : Int), d])
  | [], n, i, d, h => by simp at h
  | d' :: ds, n, 0, d, h => by simp at h; subst h; rfl
  | d' :: ds, n, i + 1, d, h => by
    have := enumL_get (n := n + 1) (show ds[i]? = some d by simpa using h)
    rw [show n + 1 + i = n + (i + 1) by omega] at this
    simpa [enumL] using this
end
end TL
end

section
set_option Elab.async false
set_option linter.all false
set_option maxRecDepth 100000
namespace TL
open PySem PySem.Spec PyProof.Rows L2

def dNe (d e : PyData) : Option Bool := (dEq d e).map not
def dLe (d e : PyData) : Option Bool := (dGt d e).map not
def dGe (d e : PyData) : Option Bool := (dLt d e).map not
def dIs (d e : PyData) : Option Bool := match e with
  | .none => some (!notNone d)
  | _ => none
def dIsNot (d e : PyData) : Option Bool := match e with
  | .none => some (notNone d)
  | _ => none
def dNotIn (d e : PyData) : Option Bool := (dIn d e).map not
section
variable {X : Cx} {k : Nat}
theorem e_eq (hu : L2H.RoomH k X.A) : OpD X (compareOp .Eq) (b2 dEq) := d_eq hu
theorem e_ne (hu : L2H.RoomH k X.A) : OpD X (compareOp .NotEq) (b2 dNe) := d_ne hu
theorem e_lt (hu : L2H.RoomH k X.A) : OpD X (compareOp .Lt) (b2 dLt) := d_lt hu
theorem e_gt (hu : L2H.RoomH k X.A) : OpD X (compareOp .Gt) (b2 dGt) := d_gt hu
theorem e_le (hu : L2H.RoomH k X.A) : OpD X (compareOp .LtE) (b2 dLe) := d_le hu
theorem e_ge (hu : L2H.RoomH k X.A) : OpD X (compareOp .GtE) (b2 dGe) := d_ge hu
theorem e_is : OpD X (compareOp .Is) (b2 dIs) := d_is
theorem e_isnot : OpD X (compareOp .IsNot) (b2 dIsNot) := d_isnot
theorem e_in (hu : L2H.RoomH k X.A) : OpD X (compareOp .In) (b2 dIn) := d_in hu
theorem e_notin (hu : L2H.RoomH k X.A) : OpD X (compareOp .NotIn) (b2 dNotIn) := d_notin hu
end
def vIsa2 (T T2 : String) (x : Vl) : Option Vl := x.dat.map fun d => .fr (.bool (isTy T d || isTy T2 d))
/-- a def of the text, as it stands behind the top -/
def FnT (P : Pg) (x : Str) (st : Stmt) : Prop := ∃ (f : Addr) (oc : Value) (od : Option Addr) (kV doc pm : Value) (an : Option Addr) (cdv ct : Value) (osl : Array (Option Value)),
  P.mg x = some (.ref f) ∧ PySem.W.keepIn P.K (.ref f) = true ∧ P.K.lookup f = some ⟨oc, od, .func (PySem.W.fnOf x x (defArgs st) (defBody st) (defScope st) .none kV doc pm an cdv ct), osl⟩ ∧ PySem.W.codeIn P.K cdv x = true
theorem cal_def {P : Pg} {cb : Bool} {k : Nat} {x : Str} {st : Stmt} {N Nv G ps : List Str} {ls : List Nat} {m : MS} (T : FnT P x st) (S : FnScope N ps (defScope st)) (hck : ckS (defScope st).names (defScope st).names N Nv G ls = true)
    (hb : ∀ (kV doc pm : Value) (an : Option Addr) (cdv ct : Value) (us : List Value), us.length = ps.length → bindArgs (PySem.W.fnOf x x (defArgs st) (defBody st) (defScope st) .none kV doc pm an cdv ct) ⟨us, []⟩ = pure (ps.zip us))
    (hbody : ∀ (X : Cx) (W : WX) (B : Bs), Ct P W N Nv G ls k X → (cb = true → X.calm = true) → Top X → X.env.scope = defScope st → SSs X W B (defBody st) m) : Cal P cb (k + 1) x (mFn ps.length N.length m) := by
  obtain ⟨f, oc, od, kV, doc, pm, an, cdv, ct, osl, hm, hk, lk, hcd⟩ := T
  exact cal_of hm hk lk hcd S hck (hb kV doc pm an cdv ct) hbody
end TL
end

section
set_option Elab.async false
set_option linter.all false
set_option maxRecDepth 100000
set_option maxHeartbeats 1000000
namespace TL
open PySem PySem.Spec PyProof.Rows L2

section
variable {X : Cx} {W : WX} {B : Bs} {N Nv Nv' G G' : List Str} {ls ls' : List Nat} {P : Pg} {k : Nat} {M : Md} {own own' : Addr → Option Nat} {F F' F1 F2 Fs Fs' : Addr → Prop} {γ γ' γ1 γ2 : List Addr} {H H' H0 H1 H2 Hs Hs' : Hp} {env env' env2 : En} {σ σ' σ2 : L2.St} {S S' S1 : Sto} {r : Vl} {u : V} {Q : VK} {D : Ends}
variable {a b c e o : Expr} {es : List Expr} {ma mb mc mo : ME} {mr : MA} {mt mu : MT} {pos : Pos} {st : Stmt} {sts : List Stmt} {m m' h : MS}
/-- an exception class of the program -/
structure ExF (P : Pg) (x : Str) (C : Addr) : Prop where
  f : ∃ (bm : List Value) (B nw ini : String), PySem.ExcBaseFacts B nw ini bm ∧ PySem.W.excIn P.K C bm nw = true
  g : P.mg x = some (.ref C)
  k : PySem.W.keepIn P.K (.ref C) = true
  r1 : PySem.W.subIn P.K (.ref C) (.type "BaseException") = some true
  r2 : PySem.W.typeIn P.K (.ref C) = some (.type "type")
  self : PySem.W.exmOne P.K (.ref C) (.ref C) = some true
theorem ExF.at {x : Str} {C0 : Addr} (E : ExF P x C0) (C : Ct P W N Nv G ls k X) : ExT X x C0 := by
  have pg := C.pg
  subst pg
  exact ⟨E.f, E.g, E.k, raises_own E.r1 E.r2⟩
theorem s_exC (C : Ct P W N Nv G ls k X) {D0 : Addr} (Z : HxC X D0) (E : ExcC P.K D0) {t : Str} {p p2 : Pos} {bb : Bool} (i j : Nat) (hm : P.mg "isinstance" = none) (ha : ES X W a ma) (hk : ∃ cv, P.mg t = some (.ref cv) ∧ PySem.W.kitOne P.K (.ref D0) (.ref cv) = some bb)
    (hg : G[i]? = some "isinstance" := by rfl) (hg2 : G[j]? = some t := by rfl) (hdb : (t == ("__debug__" : Str)) = false := by decide) (he : starEach [a, .Name t p2] X.env = (false, eval a X.env) :: starEach [.Name t p2] X.env := by rfl) (hpl : (backTo pos (starEach [.Name t p2] X.env)).any (·.1) = false := by rfl) :
    ES X W (.Call (.Name "isinstance" p) [a, .Name t p2] [] pos) (mExIs bb ma) := by
  have pg := C.pg
  subst pg
  obtain ⟨cv, h1, h2⟩ := hk
  exact s_exIs C Z E i hm ha (pe_glob (v := .ref cv) (C.glo j t hg2) h1 rfl hdb) (fun u e => e) h2 hg he hpl
theorem s_exT (C : Ct P W N Nv G ls k X) {D0 : Addr} (Z : HxC X D0) (E : ExcC P.K D0) {T : String} {t : Str} {p p2 : Pos} {bb : Bool} (i j : Nat) (hm : P.mg "isinstance" = none) (ha : ES X W a ma) (hn : P.mg t = none) (hk : PySem.W.kitOne P.K (.ref D0) (.type T) = some bb)
    (hv : bootBuiltins t = some (.type T) := by decide +kernel) (hn2 : t ≠ "__name__" := by decide)
    (hg : G[i]? = some "isinstance" := by rfl) (hg2 : G[j]? = some t := by rfl) (hdb : (t == ("__debug__" : Str)) = false := by decide) (he : starEach [a, .Name t p2] X.env = (false, eval a X.env) :: starEach [.Name t p2] X.env := by rfl) (hpl : (backTo pos (starEach [.Name t p2] X.env)).any (·.1) = false := by rfl) :
    ES X W (.Call (.Name "isinstance" p) [a, .Name t p2] [] pos) (mExIs bb ma) := by
  have pg := C.pg
  subst pg
  exact s_exIs C Z E i hm ha (pe_bltn (v := .ty T) (C.glo j t hg2) hn hv rfl hn2 hdb) (fun u e => e) hk hg he hpl

/-! ### a def that is handed the exception -/
/-- f(e) tells b -/
structure FnE (P : Pg) (k : Nat) (f : Addr) (fd : FuncData) (ps : List Str) (D0 : Addr) (b : Bool) : Prop where
  run : ∀ (A : Around) (outer : List Env) (s : Shared) (H : Hp) (args : Args) (us : List Value) (Q : VK) (E : XK) (p : Addr × Obj), L2H.RoomH k A → A.guards = some [] → L2H.Hot1 A p → L2H.PinOk outer H s p → L2.Zc (.ref D0) none p.2 → Env0 P.prog P.w P.K P.mg P.base A outer s H →
    BindsTo s fd args (ps.zip us) → Vals [.ref p.1] us → (∃ F γ S, CR2 (pgM P) F γ H S ∧ KF (pgM P) F γ H (.ok (.fr (.bool b)) S) Q E) → codeAny (model P.prog P.w) A (.call (.ref f) args) (CR (L2N.CX P.prog P.w) outer P.prog P.w H s Q E) s
def CalE (P : Pg) (k : Nat) (x : Str) (D0 : Addr) (b : Bool) : Prop := ∃ f fd ps, P.mg x = some (.ref f) ∧ PySem.W.keepIn P.K (.ref f) = true ∧ Binds P.K fd ps [] ∧ ps.length = 1 ∧ FnE P k f fd ps D0 b
def startX (n : Nat) : En := .ex none :: List.replicate (n - 1) .un
theorem cal_defE {P : Pg} {k : Nat} {x : Str} {y : Str} {st : Stmt} {N Nv G : List Str} {ls : List Nat} {m : MS} {D0 : Addr} {bb : Bool} (T : FnT P x st) (S : FnScope N [y] (defScope st)) (hck : ckS (defScope st).names (defScope st).names N Nv G ls = true)
    (hb : ∀ (kV doc pm : Value) (an : Option Addr) (cdv ct : Value) (us : List Value), us.length = [y].length → bindArgs (PySem.W.fnOf x x (defArgs st) (defBody st) (defScope st) .none kV doc pm an cdv ct) ⟨us, []⟩ = pure ([y].zip us))
    (hres : ∀ S, m (startX N.length) S = .rt (.fr (.bool bb)) S)
    (hbody : ∀ (X : Cx) (W : WX) (B : Bs), Ct P W N Nv G ls k X → Top X → X.env.scope = defScope st → HxC X D0 → SSs X W B (defBody st) m) : CalE P (k + 1) x D0 bb := by
  obtain ⟨f, oc, od, kV, doc, pm, an, cdv, ct, osl, hm, hk, lk, hcd⟩ := T
  refine ⟨f, _, [y], hm, hk, .all (hb kV doc pm an cdv ct), rfl, ⟨fun A outer s H args us Q E p hr gu hot hpin hz e0 hbd r hsp => ?_⟩⟩
  obtain ⟨F, γ, Sx, cr, kf⟩ := hsp
  have KX : P.K.In s.heap := e0.mod.kin.keeps fun b o e => (e0.bs b o e).1
  have lim : s.heap.NoLimit := e0.mod.nolimit.keeps fun b o e => (e0.bs b o e).1
  have hkind : ∀ z ∈ [y].zip us, (defScope st).names.lookup z.1 = some .local ∨ ((defScope st).names.lookup z.1 = some .cell ∧ ((cellsFrom (s.heap.objs.size + 1) (defScope st).names []).lookup z.1).isSome = true) := fun ⟨n, v⟩ hy => by
    rcases S.par n (List.of_mem_zip hy).1 with q | q
    · exact .inl q
    · exact .inr ⟨q, PySem.W.cellsFrom_some _ _ _ (.inl q)⟩
  refine codeAny_call_function hr.depth (KX _ _ lk) rfl S.co S.gen rfl (PySem.W.codeRec_of KX hcd) (hbd _ _ _ _ ?_)
  refine wpAny_newFunctionEnv_cells S.kind hkind fun env he s1 xx => ?_
  subst he
  refine ⟨lim.keeps xx.toInCall.keep, codeAny_func ?_⟩
  generalize hX : L2H.cxH (L2N.CX P.prog P.w) P.prog P.w P.K P.mg P.base N x (defScope st) f cdv A outer s H E p = X
  have C : Ct P (fun cls d _ H => E cls d H) N Nv G ls k X := by
    subst hX
    refine ⟨rfl, rfl, S.nd, fun i z q1 q2 => ?_, fun i z q => ckS_glo hck q, fun i hi z q => ⟨ckS_loc hck hi q, .inl rfl⟩, L2N.takes_of rfl rfl rfl rfl, .inr ⟨p, hot, by simp [L2H.cxH]⟩, guards_deeper gu, hr.deeper _, passes_of rfl⟩
    exact ckS_vis hck q1 q2
  have hf : ∃ vs, p.2.data = .fields vs := let ⟨_, vs, hv, _⟩ := hot; ⟨vs, hv⟩
  have Z : HxC X D0 := by subst hX; exact ⟨p, rfl, rfl, hot.1, hz, hf⟩
  have hmd : md X = ⟨P.K, P.mg, some (p.1, none)⟩ := by
    subst hX
    show (⟨P.K, P.mg, hxOf _⟩ : Md) = _
    unfold hxOf
    rw [if_neg (show ¬ (L2H.cxH (L2N.CX P.prog P.w) P.prog P.w P.K P.mg P.base N x (defScope st) f cdv A outer s H E p).calm = true from Bool.false_ne_true)]
    have hh : (L2H.cxH (L2N.CX P.prog P.w) P.prog P.w P.K P.mg P.base N x (defScope st) f cdv A outer s H E p).A.handled = some (.ref p.1) := hot.1
    rw [hh]
    show (⟨P.K, P.mg, (List.find? (fun q => q.1 == p.1) [p]).map fun q => (p.1, q.2.dict)⟩ : Md) = _
    rw [List.find?_cons_of_pos (by simp)]
    show (⟨P.K, P.mg, some (p.1, p.2.dict)⟩ : Md) = _
    rw [hz.2]
  have ht := hbody X _ ⟨F, γ, H⟩ C (by subst hX; exact ⟨rfl, rfl⟩) (by subst hX; rfl) Z
  have I : Inv X [] (L2.start N [.ref p.1]) H s1 := by subst hX; exact L2H.inv_startH (CX := L2N.CX P.prog P.w) (E := E) S hpin e0 rfl r xx
  have er : ER (md X) nob F γ H (startX N.length) (L2.start N [.ref p.1]) Sx := by
    rw [hmd]
    have hN : 1 ≤ N.length := by have := congrArg List.length S.pre; rw [List.length_take] at this; simp at this; omega
    refine ⟨by unfold startX L2.start; simp, fun i sl o h1 h2 => ?_, fun a i q => (nomatch q), CR2.ofNx (M := ⟨P.K, P.mg, some (p.1, none)⟩) cr⟩
    unfold startX at h1
    unfold L2.start at h2
    cases i with
    | zero =>
      simp at h1 h2
      subst h1; subst h2
      exact ⟨.ref p.1, rfl, p.1, none, ⟨rfl, fun _ => rfl⟩, rfl, fun q hq => nomatch hq⟩
    | succ i =>
      rw [List.getElem?_cons_succ, List.getElem?_replicate] at h1
      split at h1
      · cases h1; trivial
      · cases h1
  have ks : KS (md X) (fun cls d _ H => E cls d H) ⟨F, γ, H⟩ F H (m (startX N.length) Sx) { nx := fun _ H' => Q .non H', rt := Q } := by
    rw [hres Sx, hmd]
    exact fun F' γ' H' e c u vr => kf F' γ' H' e (CR2.nx (M := ⟨P.K, P.mg, some (p.1, none)⟩) c) u vr
  have fin : ∀ {σ' : L2.St} {H' : Hp} {v : V} {u : Value} {s' : Shared}, Inv X [] σ' H' s' → RelV v u → Q v H' → CE outer P.prog P.w H s Q u s' :=
    fun {σ' H' v u s'} J rv q => by subst hX; exact ⟨v, H', J.os, J.bare, J.base, J.hok, rv, q⟩
  have go := ht.run [] s1 (L2.start N [.ref p.1]) H { nx := fun _ H' => Q .non H', rt := Q } I ⟨nob, F, γ, startX N.length, Sx, ⟨EG.refl, fun a i q => nomatch q⟩, er, ks⟩
  have goal : wpAny (model P.prog P.w) X.A (execs (defBody st) X.env) (SP X [] { nx := fun _ H' => Q .non H', rt := Q }) X.xe s1 := by subst hX; exact go
  subst hX
  refine wpAny_mono goal (fun fl s' hs => ?_) fun e s' hs => hs
  cases fl with
  | ret u => obtain ⟨v, σ', H', J, rv, q⟩ := hs; exact fin J rv q
  | next => obtain ⟨σ', H', J, q⟩ := hs; exact fin (v := V.non) (u := Value.none) J rfl q
  | brk => obtain ⟨_, _, _, q⟩ := hs; exact False.elim q
  | cont => obtain ⟨_, _, _, q⟩ := hs; exact False.elim q
/-- f(e) in the suite -/
def mCallE (bb : Bool) (ma : ME) : ME := fun env S => (ma env S).bind fun x S1 => match x with
  | .ex none => .ok (.fr (.bool bb)) S1
  | _ => .stuck
theorem s_callE (C : Ct P W N Nv G ls k X) {D0 : Addr} {bb : Bool} (Z : Sui X D0) {j : Nat} {x : Str} {q : Pos} (i : Nat) (Fc : CalE P j x D0 bb) (hj : j ≤ k) (ha : ES X W a ma) (hg : G[i]? = some x := by rfl)
    (hdb : (x == ("__debug__" : Str)) = false := by decide) (he : starEach [a] X.env = (false, eval a X.env) :: starEach [] X.env := by rfl) (hpl : (backTo pos (starEach [] X.env)).any (·.1) = false := by rfl) :
    ES X W (.Call (.Name x q) [a] [] pos) (mCallE bb ma) := by
  obtain ⟨f, fd, ps, hm, hk, hb, hps, Fn⟩ := Fc
  have pg := C.pg
  subst pg
  refine ⟨fun pins s σ H Q I h => ?_⟩
  obtain ⟨own, F0, γ, env, S, er, hq⟩ := h
  refine wpAny_Call_Name_kw (ld_glob I (C.glo i x hg) hm ?_ hdb)
  obtain ⟨Y, ad, oe, d, pn, hX, hz, vs0, hf⟩ := Z.ex
  have hA : tA (md X) W (mCons ma mNil) σ H fun vs H1 => ∃ E, PassesAt (L2N.CX X.prog X.w) X σ E ∧ vs = [.ref ad] ∧ d = none ∧ (∃ F γ S, CR2 (pgM (pgOf X)) F γ H1 S ∧ KF (pgM (pgOf X)) F γ H1 (.ok (.fr (.bool bb)) S) Q E) := by
    refine ⟨own, F0, γ, env, S, er, ?_⟩
    have hq : KG (md X) W own F0 γ H env σ ((ma env S).bind fun x S1 => (match x with
      | .ex none => .ok (.fr (.bool bb)) S1
      | _ => .stuck : Res Vl)) _ := hq
    revert hq
    unfold mCons mNil
    cases hma : ma env S with
    | stuck => exact fun q => q
    | exc e S1 => exact fun q => q
    | ok xv S1 =>
      intro hq F' γ' H' e' er' us vr
      obtain ⟨u, rfl, v1⟩ := paired1 vr
      cases xv with
      | ex p =>
        cases p with
        | none =>
          obtain ⟨a', d', ⟨h1, h1d⟩, rfl, _⟩ := v1
          rw [hX, md_sui hz] at h1
          cases h1
          exact ⟨WE W σ, L2N.passAt C.tk σ, rfl, h1d rfl, F', γ', S1, er'.c.nx, KF_of (x := .ok (.fr (.bool bb)) S1) er' e' hq⟩
        | some p => exact hq.elim
      | _ => exact hq.elim
  refine PySem.W.callWith_K (h₀ := X.base) I.ok.mod.kin hk (thn ((s_acons ha s_anil he).run pos pins s σ H _ I hA) fun us s1 ⟨vs, H1, I1, r, E, hx, ev, ed, q⟩ => ⟨I1.kIn, ?_⟩) he hpl
  subst ev
  subst ed
  have hpin0 : (ad, oe) ∈ X.pn := by rw [hX]; exact List.mem_cons_self
  have P1 := I1.pin (ad, oe) (List.mem_append_left _ hpin0)
  have hpin : L2H.PinOk X.stack H1 s1 (ad, oe) := ⟨P1.1, P1.2.1, fun hm => (List.mem_cons.mp (I1.stkSub ad hm)).elim P1.2.2.1 P1.2.2.2.1, P1.2.2.2.2⟩
  have hot : L2H.Hot1 X.A (ad, oe) := ⟨by rw [hX]; rfl, vs0, hf, hz.2.2 vs0 hf⟩
  have hl : us.length = ps.length := by rw [← r.length, hps]; rfl
  have b := hb s1 us I1.kIn (by rw [List.append_nil]; exact hl)
  rw [List.append_nil] at b
  refine wpAny_call (codeAny_mono (Fn.run X.A X.stack s1 H1 ⟨us, []⟩ us Q E (ad, oe) (C.rm.mono hj) C.gu hot hpin hz.zc I1.env0 b r q) fun r s' hq => ?_)
  cases r with
  | error e => exact hx pins H1 s1 e s' I1 hq
  | ok fl =>
    cases fl with
    | ret u => exact I1.after hq
    | next => exact False.elim hq
    | brk => exact False.elim hq
    | cont => exact False.elim hq
end
end TL
end

section
set_option Elab.async false
set_option linter.all false
set_option maxRecDepth 100000
namespace TL
open PySem PySem.Spec PyProof.Rows L2 PySem.W

/-! ### mirrors, worked out -/
section
variable {α β : Type} {env : En} {S S' : Sto} {a : α} {e : Xc}
@[simp] theorem bind_ok {f : α → Sto → Res β} : (Res.ok a S).bind f = f a S := rfl
@[simp] theorem bind_exc {f : α → Sto → Res β} : (Res.exc e S : Res α).bind f = .exc e S := rfl
@[simp] theorem toS_ok {f : α → Sto → Rs} : (Res.ok a S).toS env f = f a S := rfl
@[simp] theorem toS_exc {f : α → Sto → Rs} : (Res.exc e S : Res α).toS env f = .exc e env S := rfl
@[simp] theorem mC_at {d : PyData} : mC d env S = .ok (.fr d) S := rfl
@[simp] theorem mVar_at {i : Nat} : mVar i env S = (match env[i]? with
  | some (.fr d) => .ok (.fr d) S
  | some (.ow d) => .ok (.bo i d) S
  | some (.rf k) => .ok (.rf k) S
  | some (.sc ns) => .ok (.sc ns) S
  | some (.ex p) => .ok (.ex p) S
  | _ => .stuck) := rfl
@[simp] theorem m1_at {op : Vl → Option Vl} {ma : ME} : m1 op ma env S = (ma env S).bind fun x S1 => opt1 op x S1 := rfl
@[simp] theorem m2_at {op : Vl → Vl → Option Vl} {ma mb : ME} : m2 op ma mb env S = (ma env S).bind fun x S1 => (mb env S1).bind fun y S2 => opt2 op x y S2 := rfl
@[simp] theorem mL_at {op : List Vl → Option Vl} {mr : MA} : mL op mr env S = (mr env S).bind fun xs S1 => optL op xs S1 := rfl
@[simp] theorem mNil_at : mNil env S = .ok [] S := rfl
@[simp] theorem mCons_at {ma : ME} {mr : MA} : mCons ma mr env S = (ma env S).bind fun x S1 => (mr env S1).bind fun xs S2 => .ok (x :: xs) S2 := rfl
@[simp] theorem mTru_at {ma : ME} : mTru ma env S = (ma env S).bind fun x S1 => optT vTru x S1 := rfl
@[simp] theorem m2B_at {f : PyData → PyData → Option Bool} {ma mb : ME} : m2B f ma mb env S = (ma env S).bind fun x S1 => (mb env S1).bind fun y S2 => optB f x y S2 := rfl
@[simp] theorem mOfT_at {mt : MT} : mOfT mt env S = (mt env S).bind fun k S1 => .ok (.fr (.bool k)) S1 := rfl
@[simp] theorem mAnd_at {mt mu : MT} : mAnd mt mu env S = (mt env S).bind fun k S1 => if k then mu env S1 else .ok false S1 := rfl
@[simp] theorem mOr_at {mt mu : MT} : mOr mt mu env S = (mt env S).bind fun k S1 => if k then .ok true S1 else mu env S1 := rfl
@[simp] theorem mNot_at {mt : MT} : mNot mt env S = (mt env S).bind fun k S1 => .ok (!k) S1 := rfl
@[simp] theorem mIf_at {mt : MT} {ma mb : ME} : mIf mt ma mb env S = (mt env S).bind fun k S1 => if k then ma env S1 else mb env S1 := rfl
@[simp] theorem mNone_at : mNone env S = .ok none S := rfl
@[simp] theorem mSeq_at {m m' : MS} : mSeq m m' env S = (match m env S with
  | .nx env' S' => m' env' S'
  | r => r) := rfl
@[simp] theorem mPass_at : mPass env S = .nx env S := rfl
@[simp] theorem mRet_at {ma : ME} : mRet ma env S = (ma env S).toS env retV := rfl
@[simp] theorem mRetN_at : mRetN env S = .rt (.fr .none) S := rfl
@[simp] theorem mDrop_at {ma : ME} : mDrop ma env S = (ma env S).toS env fun _ S' => .nx env S' := rfl
@[simp] theorem mIfS_at {mt : MT} {m m' : MS} : mIfS mt m m' env S = (mt env S).toS env fun b S' => if b then m env S' else m' env S' := rfl
@[simp] theorem mSet_at {i : Nat} {ma : ME} : mSet i ma env S = (ma env S).toS env fun v S' => putS i v env S' := rfl
@[simp] theorem mRaise_at {x : Str} : mRaise x env S = .exc ⟨x, none⟩ env S := rfl
@[simp] theorem mFor_at {mi : MI} {f : Tg} {b : MS} : mFor mi f b env S = (mi env S).toS env fun ds S1 => goFor f b ds env S1 := rfl
@[simp] theorem mItems_at {ma : ME} : mItems ma env S = (ma env S).bind fun x S1 => match vItems x with
  | some ds => .ok ds S1
  | none => .stuck := rfl
@[simp] theorem mItemsT_at {ma : ME} : mItemsT ma env S = (ma env S).bind fun x S1 => match vItemsT x with
  | some ds => .ok ds S1
  | none => .stuck := rfl
@[simp] theorem mRng_at {mr : MA} : mRng mr env S = (mr env S).bind fun xs S1 => match vRng xs with
  | some ds => .ok ds S1
  | none => .stuck := rfl
@[simp] theorem mZip_at {mr : MA} : mZip mr env S = (mr env S).bind fun xs S1 => match vZip xs with
  | some ds => .ok ds S1
  | none => .stuck := rfl
@[simp] theorem mR1_at {ma : ME} : mR1 ma env S = mRng (mCons ma mNil) env S := rfl
@[simp] theorem mR2_at {ma mb : ME} : mR2 ma mb env S = mRng (mCons ma (mCons mb mNil)) env S := rfl
@[simp] theorem mCall_at {mf : MF} {mr : MA} : mCall mf mr env S = (mr env S).bind fun xs S1 => match argL xs with
  | some ys => mf ys S1
  | none => .stuck := rfl
@[simp] theorem goFor_nil {f : Tg} {b : MS} : goFor f b [] env S = .nx env S := rfl
theorem goFor_cons {f : Tg} {b : MS} {d : PyData} {ds : List PyData} : goFor f b (d :: ds) env S = (match f env d with
    | some env' => (b env' S).loop (goFor f b ds)
    | none => .stuck) := rfl
@[simp] theorem loop_nx {f : En → Sto → Rs} : (Rs.nx env S).loop f = f env S := rfl
@[simp] theorem loop_ct {f : En → Sto → Rs} : (Rs.ct env S).loop f = f env S := rfl
@[simp] theorem loop_bk {f : En → Sto → Rs} : (Rs.bk env S).loop f = .nx env S := rfl
@[simp] theorem loop_rt {v : Vl} {f : En → Sto → Rs} : (Rs.rt v S).loop f = .rt v S := rfl
@[simp] theorem loop_exc {f : En → Sto → Rs} : (Rs.exc e env S).loop f = .exc e env S := rfl
@[simp] theorem putS_fr {i : Nat} {d : PyData} : putS i (.fr d) env S = if i < env.length then .nx (env.set i (.fr d)) S else .stuck := rfl
@[simp] theorem putS_ow {i : Nat} {d : PyData} : putS i (.ow d) env S = if i < env.length then .nx (env.set i (.ow d)) S else .stuck := rfl
@[simp] theorem putS_rf {i k : Nat} : putS i (.rf k) env S = if i < env.length then .nx (env.set i (.rf k)) S else .stuck := rfl
@[simp] theorem retV_fr {d : PyData} : retV (.fr d) S = .rt (.fr d) S := rfl
@[simp] theorem retV_ow {d : PyData} : retV (.ow d) S = .rt (.ow d) S := rfl
@[simp] theorem retV_bo {i : Nat} {d : PyData} : retV (.bo i d) S = .rt (.ow d) S := rfl
@[simp] theorem argL_nil : argL [] = some [] := rfl
@[simp] theorem argL_frz {d : PyData} {r : List Vl} : argL (.fr d :: r) = (argL r).map (.fr d :: ·) := by
  show (match some (Vl.fr d), argL r with
    | some y, some ys => some (y :: ys)
    | _, _ => none) = _
  cases argL r <;> rfl
@[simp] theorem argL_ow {d : PyData} {r : List Vl} : argL (.ow d :: r) = (argL r).map (.fr d :: ·) := by
  show (match some (Vl.fr d), argL r with
    | some y, some ys => some (y :: ys)
    | _, _ => none) = _
  cases argL r <;> rfl
@[simp] theorem argL_rf {k : Nat} {r : List Vl} : argL (.rf k :: r) = (argL r).map (.rf k :: ·) := by
  show (match some (Vl.rf k), argL r with
    | some y, some ys => some (y :: ys)
    | _, _ => none) = _
  cases argL r <;> rfl
@[simp] theorem argL_sc {ns : List Int} {r : List Vl} : argL (.sc ns :: r) = (argL r).map (.sc ns :: ·) := by
  show (match some (Vl.sc ns), argL r with
    | some y, some ys => some (y :: ys)
    | _, _ => none) = _
  cases argL r <;> rfl
@[simp] theorem dat_fr {d : PyData} : (Vl.fr d).dat = some d := rfl
@[simp] theorem dat_ow {d : PyData} : (Vl.ow d).dat = some d := rfl
@[simp] theorem dat_bo {i : Nat} {d : PyData} : (Vl.bo i d).dat = some d := rfl
@[simp] theorem optT_at {op : Vl → Option Bool} {x : Vl} : optT op x S = (match op x with
  | some b => .ok b S
  | none => .stuck) := rfl
@[simp] theorem opt1_at {op : Vl → Option Vl} {x : Vl} : opt1 op x S = (match op x with
  | some z => .ok z S
  | none => .stuck) := rfl
@[simp] theorem opt2_at {op : Vl → Vl → Option Vl} {x y : Vl} : opt2 op x y S = (match op x y with
  | some z => .ok z S
  | none => .stuck) := rfl
@[simp] theorem optL_at {op : List Vl → Option Vl} {xs : List Vl} : optL op xs S = (match op xs with
  | some z => .ok z S
  | none => .stuck) := rfl
@[simp] theorem optB_at {f : PyData → PyData → Option Bool} {x y : Vl} {d e : PyData} (hx : x.dat = some d) (hy : y.dat = some e) : optB f x y S = (match f d e with
  | some b => .ok b S
  | none => .stuck) := by
  unfold optB
  rw [hx, hy] <;> rfl
@[simp] theorem vTru_bool {b : Bool} : vTru (.fr (.bool b)) = some b := rfl
/-! ints, texts -/
section
variable {i j : Int} {x y : Str} {b c : Bool}
@[simp] theorem dLt_int : dLt (.int i) (.int j) = some (decide (i < j)) := by
  simp [dLt, PyData.plain, alike, notNone, shallow, PyData.depth, dataLt_int]
@[simp] theorem dGt_int : dGt (.int i) (.int j) = some (decide (j < i)) := by
  simp [dGt, PyData.plain, alike, notNone, shallow, PyData.depth, dataLt_int]
@[simp] theorem dLe_int : dLe (.int i) (.int j) = some (decide (i ≤ j)) := by
  simp only [dLe, dGt_int, Option.map_some, Option.some.injEq]
  rw [Bool.eq_iff_iff]
  simp
@[simp] theorem dGe_int : dGe (.int i) (.int j) = some (decide (j ≤ i)) := by
  simp only [dGe, dLt_int, Option.map_some, Option.some.injEq]
  rw [Bool.eq_iff_iff]
  simp
@[simp] theorem dEq_int : dEq (.int i) (.int j) = some (decide (i = j)) := by
  simp [dEq, PyData.plain, shallow, PyData.depth, PyData.eqv]
  rw [Bool.eq_iff_iff]
  simp
@[simp] theorem dNe_int : dNe (.int i) (.int j) = some (!decide (i = j)) := by
  simp [dNe]
@[simp] theorem dEq_str : dEq (.str x) (.str y) = some (decide (x = y)) := by
  simp [dEq, PyData.plain, shallow, PyData.depth, PyData.eqv]
  rw [Bool.eq_iff_iff]
  simp
@[simp] theorem dNe_str : dNe (.str x) (.str y) = some (!decide (x = y)) := by
  simp [dNe]
end
end
/-! operations on known values -/
section
variable {i j : Int} {x y : Str} {b c : Bool} {ds es : List PyData} {q : Nat}
@[simp] theorem vAdd_int : vAdd (.fr (.int i)) (.fr (.int j)) = some (.fr (.int (i + j))) := rfl
@[simp] theorem vSub_int : vSub (.fr (.int i)) (.fr (.int j)) = some (.fr (.int (i - j))) := rfl
@[simp] theorem vNeg_int : vNeg (.fr (.int i)) = some (.fr (.int (-i))) := rfl
theorem vMul_int (h : (small i || small j) = true) : vMul (.fr (.int i)) (.fr (.int j)) = some (.fr (.int (i * j))) := by
  show (if small i || small j then some (Vl.fr (.int (i * j))) else none) = _
  rw [if_pos h]
theorem vDiv_int (h1 : 0 < j) (h2 : j < 1073741824) : vDiv (.fr (.int i)) (.fr (.int j)) = some (.fr (.int (i / j))) := by
  simp [vDiv, i2, h1, h2]
theorem vMod_int (h1 : 0 < j) : vMod (.fr (.int i)) (.fr (.int j)) = some (.fr (.int (i % j))) := by
  simp [vMod, i2, h1]
@[simp] theorem vLen_tup : vLen [.fr (.tuple ds)] = some (.fr (.int ds.length)) := rfl
@[simp] theorem vLen_lst : vLen [.fr (.list ds)] = some (.fr (.int ds.length)) := rfl
@[simp] theorem vLen_lstb : vLen [.bo q (.list ds)] = some (.fr (.int ds.length)) := rfl
@[simp] theorem vLen_sc {ns : List Int} : vLen [.sc ns] = some (.fr (.int ns.length)) := rfl
@[simp] theorem vInt_int : on1 vInt [.fr (.int i)] = some (.fr (.int i)) := rfl
@[simp] theorem vAbs_int : on1 vAbs [.fr (.int i)] = some (.fr (.int (if i < 0 then -i else i))) := by
  rfl
@[simp] theorem vTupOf_ow : on1 vTupOf [.ow (.list ds)] = some (.fr (.tuple ds)) := rfl
@[simp] theorem vTupOf_fr : on1 vTupOf [.fr (.list ds)] = some (.fr (.tuple ds)) := rfl
@[simp] theorem vLstOf_tup : on1 vLstOf [.fr (.tuple ds)] = some (.ow (.list ds)) := rfl
theorem atI_at {α : Type} {xs : List α} {n : Nat} (h : n < xs.length) : L2.atI xs (n : Int) = some xs[n] := L2.atI_nat (List.getElem?_eq_getElem h)
theorem atI_ge {α : Type} {xs : List α} {n : Int} (h0 : 0 ≤ n) (h : n < xs.length) : ∃ x, L2.atI xs n = some x ∧ x ∈ xs := by
  obtain ⟨k, rfl⟩ := Int.eq_ofNat_of_zero_le h0
  exact ⟨_, atI_at (by omega), List.getElem_mem _⟩
theorem vIx_tup {d : PyData} (h : L2.atI ds i = some d) : vIx (.fr (.tuple ds)) (.fr (.int i)) = some (.fr d) := by
  show (L2.atI ds i).map Vl.fr = _
  rw [h]; rfl
theorem vIx_lst {d : PyData} (h : L2.atI ds i = some d) : vIx (.fr (.list ds)) (.fr (.int i)) = some (.fr d) := by
  show (L2.atI ds i).map Vl.fr = _
  rw [h]; rfl
theorem vIx_lstw {d : PyData} (h : L2.atI ds i = some d) : vIx (.ow (.list ds)) (.fr (.int i)) = some (.fr d) := by
  show (L2.atI ds i).map Vl.fr = _
  rw [h]; rfl
theorem vIx_lstb {d : PyData} (h : L2.atI ds i = some d) : vIx (.bo q (.list ds)) (.fr (.int i)) = some (.fr d) := by
  show (L2.atI ds i).map Vl.fr = _
  rw [h]; rfl
@[simp] theorem frzL_nil : frzL [] = some [] := rfl
@[simp] theorem frzL_fr {d : PyData} {r : List Vl} : frzL (.fr d :: r) = (frzL r).map (d :: ·) := rfl
@[simp] theorem frzL_ow {d : PyData} {r : List Vl} : frzL (.ow d :: r) = (frzL r).map (d :: ·) := rfl
@[simp] theorem frz_fr {d : PyData} : (Vl.fr d).frz = some d := rfl
@[simp] theorem frz_ow {d : PyData} : (Vl.ow d).frz = some d := rfl
end
theorem okR_nat {n : Nat} (h : n < 4611686018427387904) : okR (n : Int) = true := decide_eq_true (by rw [Int.natAbs_natCast]; exact h)
theorem okR_int {i : Int} (h0 : 0 ≤ i) (h : i < 4611686018427387904) : okR i = true := decide_eq_true (by omega)
theorem vRng1 {n : Int} (h : okR n = true) : vRng [.fr (.int n)] = some (rngL 0 n) := by
  show (if okR n then some (rngL 0 n) else none) = _
  rw [if_pos h]
theorem vRng2 {i j : Int} (h : okR i = true) (h2 : okR j = true) : vRng [.fr (.int i), .fr (.int j)] = some (rngL i j) := by
  show (if okR i && okR j then some (rngL i j) else none) = _
  rw [if_pos (by rw [h, h2]; rfl)]
theorem mR1_run {ma : ME} {env : En} {S S1 : Sto} {n : Int} (h : ma env S = .ok (.fr (.int n)) S1) (hk : okR n = true) : mR1 ma env S = .ok (rngL 0 n) S1 := by
  rw [mR1_at, mRng_at, mCons_at, h, bind_ok, mNil_at, bind_ok, bind_ok, vRng1 hk]
theorem mFor_run {mi : MI} {f : Tg} {b : MS} {env : En} {S S1 : Sto} {ds : List PyData} (h : mi env S = .ok ds S1) : mFor mi f b env S = goFor f b ds env S1 := by
  rw [mFor_at, h, toS_ok]
theorem seq_nx {m m' : MS} {env e : En} {S S1 : Sto} (h : m env S = .nx e S1) : mSeq m m' env S = m' e S1 := by rw [mSeq_at, h]
theorem seq_rt {m m' : MS} {env : En} {S S1 : Sto} {v : Vl} (h : m env S = .rt v S1) : mSeq m m' env S = .rt v S1 := by rw [mSeq_at, h]
theorem seq_ct {m m' : MS} {env e : En} {S S1 : Sto} (h : m env S = .ct e S1) : mSeq m m' env S = .ct e S1 := by rw [mSeq_at, h]
theorem seq_exc {m m' : MS} {env e : En} {S S1 : Sto} {x : Xc} (h : m env S = .exc x e S1) : mSeq m m' env S = .exc x e S1 := by rw [mSeq_at, h]
/-- the end of a def -/
def Rs.fin (r : Rs) : Res Vl := match r with
  | .rt v S' => .ok v S'
  | .nx _ S' => .ok (.fr .none) S'
  | .exc e _ S' => .exc e S'
  | _ => .stuck
theorem mFn_at {np n : Nat} {m : MS} {xs : List Vl} {S : Sto} (h : xs.length = np) : mFn np n m xs S = (m (startE n xs) S).fin := by
  unfold mFn
  rw [if_pos h]
  cases m (startE n xs) S <;> rfl
@[simp] theorem fin_rt {v : Vl} {S : Sto} : (Rs.rt v S).fin = .ok v S := rfl
@[simp] theorem fin_nx {e : En} {S : Sto} : (Rs.nx e S).fin = .ok (.fr .none) S := rfl
@[simp] theorem fin_exc {x : Xc} {e : En} {S : Sto} : (Rs.exc x e S).fin = .exc x S := rfl
/-! ### loops by a word that stays true -/
theorem goFor_inv {f : Tg} {b : MS} (I : List PyData → En → Sto → Prop)
    (step : ∀ d r env S, I (d :: r) env S → ∃ env' e S', f env d = some env' ∧ (b env' S = .nx e S' ∨ b env' S = .ct e S') ∧ I r e S') : ∀ (ds : List PyData) (env : En) (S : Sto), I ds env S → ∃ e S', goFor f b ds env S = .nx e S' ∧ I [] e S'
  | [], env, S, h => ⟨env, S, rfl, h⟩
  | d :: r, env, S, h => by
    obtain ⟨env', e, S', hf, hb, hI⟩ := step d r env S h
    obtain ⟨e2, S2, h1, h2⟩ := goFor_inv I step r e S' hI
    refine ⟨e2, S2, ?_, h2⟩
    rw [goFor_cons, hf]
    rcases hb with hb | hb
    · show (b env' S).loop _ = _
      rw [hb]; exact h1
    · show (b env' S).loop _ = _
      rw [hb]; exact h1
theorem goLc_inv {f : Tg} {mt : MT} {ma : ME} {env : En} (I : List PyData → List PyData → Sto → Prop)
    (step : ∀ d r acc S, I (d :: r) acc S → ∃ env' S1 v S2 x, f env d = some env' ∧ mt env' S = .ok true S1 ∧ ma env' S1 = .ok v S2 ∧ v.frz = some x ∧ acc.length < 16777216 ∧ I r (acc ++ [x]) S2) :
    ∀ (ds acc : List PyData) (S : Sto), I ds acc S → ∃ acc' S', goLc f mt ma env ds acc S = .ok acc' S' ∧ I [] acc' S'
  | [], acc, S, h => ⟨acc, S, rfl, h⟩
  | d :: r, acc, S, h => by
    obtain ⟨env', S1, v, S2, x, h1, h2, h3, h4, h5, hI⟩ := step d r acc S h
    obtain ⟨acc', S', g1, g2⟩ := goLc_inv I step r (acc ++ [x]) S2 hI
    refine ⟨acc', S', ?_, g2⟩
    unfold goLc
    rw [h1]
    dsimp only
    rw [h2]
    dsimp only
    rw [if_pos rfl, h3]
    dsimp only
    rw [h4]
    dsimp only
    rw [if_pos h5]
    exact g1
end TL
end

section
set_option Elab.async false
set_option linter.all false
set_option maxRecDepth 100000
set_option maxHeartbeats 2000000
namespace K01
open PySem PySem.Spec PyProof.Rows L2 TL
def topS (i : Nat) : Stmt := PySem.Challenge.pw_looksfar_k01_check_task.main.body.getD i (.Pass ⟨0, 0, 0, 0⟩)
/-- what the top has written -/
structure Pf (P : Pg) : Type where
  x_D : Addr
  x_g : ExF P "BadTask" x_D
  x_hx : ExcC P.K x_D
  i_LookError : ∃ cv, P.mg "LookError" = some (.ref cv) ∧ PySem.W.kitOne P.K (.ref x_D) (.ref cv) = some true
  i_ValueError : PySem.W.kitOne P.K (.ref x_D) (.type "ValueError") = some true
  i_BadAlgorithm : ∃ cv, P.mg "BadAlgorithm" = some (.ref cv) ∧ PySem.W.kitOne P.K (.ref x_D) (.ref cv) = some false
  i_BadNetwork : ∃ cv, P.mg "BadNetwork" = some (.ref cv) ∧ PySem.W.kitOne P.K (.ref x_D) (.ref cv) = some false
  i_BadReach : ∃ cv, P.mg "BadReach" = some (.ref cv) ∧ PySem.W.kitOne P.K (.ref x_D) (.ref cv) = some false
  i_BadEasing : ∃ cv, P.mg "BadEasing" = some (.ref cv) ∧ PySem.W.kitOne P.K (.ref x_D) (.ref cv) = some false
  i_NoRows : ∃ cv, P.mg "NoRows" = some (.ref cv) ∧ PySem.W.kitOne P.K (.ref x_D) (.ref cv) = some false
  i_TooMany : ∃ cv, P.mg "TooMany" = some (.ref cv) ∧ PySem.W.kitOne P.K (.ref x_D) (.ref cv) = some false
  i_BadText : ∃ cv, P.mg "BadText" = some (.ref cv) ∧ PySem.W.kitOne P.K (.ref x_D) (.ref cv) = some false
  n_ValueError : P.mg "ValueError" = none
  n_abs : P.mg "abs" = none
  n_bool : P.mg "bool" = none
  n_int : P.mg "int" = none
  n_isinstance : P.mg "isinstance" = none
  n_len : P.mg "len" = none
  n_list : P.mg "list" = none
  n_range : P.mg "range" = none
  n_repr : P.mg "repr" = none
  n_sorted : P.mg "sorted" = none
  n_str : P.mg "str" = none
  n_tuple : P.mg "tuple" = none
  n_zip : P.mg "zip" = none
  g_MOST_INPUTS : ∃ t, P.mg "MOST_INPUTS" = some (.int 4 t)
  g_MOST_LABELS : ∃ t, P.mg "MOST_LABELS" = some (.int 60 t)
  g_MOST_PRODUCT : ∃ t, P.mg "MOST_PRODUCT" = some (.int 4000 t)
  e_BadTask : ∃ C, ExF P "BadTask" C
  e_LookError : ∃ C, ExF P "LookError" C
  f_is_number : FnT P "is_number" (topS 14)
  f_fits_bounds : FnT P "fits_bounds" (topS 15)
  f_fits_labels : FnT P "fits_labels" (topS 16)
  f_are_rows : FnT P "are_rows" (topS 17)
  f_check_task : FnT P "check_task" (topS 18)
  f__law_draws : FnT P "_law_draws" (topS 20)
  f__law_take : FnT P "_law_take" (topS 21)
  f__law_integer : FnT P "_law_integer" (topS 22)
  f__law_rows : FnT P "_law_rows" (topS 23)
  f__law_labels : FnT P "_law_labels" (topS 24)
  f__law_task : FnT P "_law_task" (topS 25)
  f__law_odd : FnT P "_law_odd" (topS 26)
  f__law_label_changes : FnT P "_law_label_changes" (topS 27)
  f__law_row_changes : FnT P "_law_row_changes" (topS 28)
  f__law_rows_changes : FnT P "_law_rows_changes" (topS 29)
  f__law_side_changes : FnT P "_law_side_changes" (topS 30)
  f__law_changed : FnT P "_law_changed" (topS 31)
  f__law_rows_right : FnT P "_law_rows_right" (topS 32)
  f__law_right : FnT P "_law_right" (topS 33)
  f__law_only_bad_task : FnT P "_law_only_bad_task" (topS 34)
  f__law_asked : FnT P "_law_asked" (topS 35)
  f__law_all : FnT P "_law_all" (topS 36)
  f_law : FnT P "law" (topS 37)

noncomputable def b_is_number : MS := (mRet (mAndV (m1 (vIsa "int") (mVar 0)) (mAndV (mNotV (m1 (vIsa "bool") (mVar 0))) (mOfT (mCh dLe dLe (mVar 1) (mVar 0) (mVar 2))))))
noncomputable def m_is_number : MF := mFn 3 3 b_is_number
theorem c_is_number {P : Pg} (F : Pf P) : Cal P true 1 "is_number" m_is_number :=
  cal_def (st := topS 14) (N := ["value", "least", "most"]) (Nv := ["value", "least", "most"]) (G := ["isinstance", "int", "bool"]) (ps := ["value", "least", "most"]) (ls := [0, 1, 2]) F.f_is_number ⟨rfl, rfl, rfl, by decide +kernel, rfl, by decide +kernel, by decide +kernel⟩ (by decide +kernel) (fun _ _ _ _ _ _ us hl => match us, hl with | [_, _, _], _ => rfl) fun X W B C hc T hsc => by
    replace hc := hc rfl
    exact (q_one (q_ret (s_and (s_isa (T := "int") C 0 1 (C.mk' F.n_isinstance) (C.mk' F.n_int) (s_var C 0)) (s_and (s_not (s_isa (T := "bool") C 0 2 (C.mk' F.n_isinstance) (C.mk' F.n_bool) (s_var C 0))) (s_one (s_chain (e_le C.rm) (e_le C.rm) (s_var C 1) (s_var C 0) (s_var C 2)))))))
noncomputable def b_fits_bounds : MS := (mSeq (mIfS (mNot (mTru (m1 (vIsa2 "tuple" "list") (mVar 0)))) (mRet (mC (.bool false))) mPass) (mSeq (mSet 1 (mC (.int 1))) (mSeq (mFor (mItems (mVar 0)) (tgN 2) (mSeq (mIfS (mNot (mTru (mCall m_is_number (mCons (mVar 2) (mCons (mC (.int 1)) (mCons (mC (.int 60)) mNil)))))) (mRet (mC (.bool false))) mPass) (mSet 1 (m2 vMul (mVar 1) (mVar 2))))) (mRet (m2 (b2 dLe) (mVar 1) (mC (.int 4000)))))))
noncomputable def m_fits_bounds : MF := mFn 1 3 b_fits_bounds
theorem c_fits_bounds {P : Pg} (F : Pf P) : Cal P true 2 "fits_bounds" m_fits_bounds :=
  cal_def (st := topS 15) (N := ["labels", "product", "many"]) (Nv := ["labels", "product", "many"]) (G := ["isinstance", "tuple", "list", "is_number", "MOST_LABELS", "MOST_PRODUCT"]) (ps := ["labels"]) (ls := [0, 1, 2]) F.f_fits_bounds ⟨rfl, rfl, rfl, by decide +kernel, rfl, by decide +kernel, by decide +kernel⟩ (by decide +kernel) (fun _ _ _ _ _ _ us hl => match us, hl with | [_], _ => rfl) fun X W B C hc T hsc => by
    replace hc := hc rfl
    exact (q_cons (q_if (t_not (t_val (s_isa2 (T := "tuple") (T2 := "list") C 0 1 2 (C.mk' F.n_isinstance) (C.mk' F.n_tuple) (C.mk' F.n_list) (s_var C 0)))) (q_one (q_ret s_bl)) q_nil) (q_cons (q_set C 1 s_int) (q_cons (q_for C hc (i_val (s_var C 0)) (g_name C 2) (q_cons (q_if (t_not (t_val (s_call C 3 (c_is_number F) (by decide) (fun _ => hc) (s_acons (s_var C 2) (s_acons s_int (s_acons (s_globE C 4 F.g_MOST_LABELS) s_anil)))))) (q_one (q_ret s_bl)) q_nil) (q_one (q_set C 1 (s_bin d_mul (s_var C 1) (s_var C 2)))))) (q_one (q_ret (s_cmp (e_le C.rm) (s_var C 1) (s_globE C 5 F.g_MOST_PRODUCT) (nomark _)))))))
noncomputable def b_fits_labels : MS := (mSeq (mIfS (mOr (mNot (mTru (m1 (vIsa "tuple") (mVar 0)))) (m2B dNe (mL vLen (mCons (mVar 0) mNil)) (mL vLen (mCons (mVar 1) mNil)))) (mRet (mC (.bool false))) mPass) (mSeq (mFor (mZip (mCons (mVar 0) (mCons (mVar 1) mNil))) (tgT (tgCons (tgN 2) (tgCons (tgN 3) tgNil))) (mIfS (mNot (mTru (mCall m_is_number (mCons (mVar 2) (mCons (mC (.int 0)) (mCons (m2 vSub (mVar 3) (mC (.int 1))) mNil)))))) (mRet (mC (.bool false))) mPass)) (mRet (mC (.bool true)))))
noncomputable def m_fits_labels : MF := mFn 2 4 b_fits_labels
theorem c_fits_labels {P : Pg} (F : Pf P) : Cal P true 2 "fits_labels" m_fits_labels :=
  cal_def (st := topS 16) (N := ["row", "labels", "label", "many"]) (Nv := ["row", "labels", "label", "many"]) (G := ["isinstance", "tuple", "len", "zip", "is_number"]) (ps := ["row", "labels"]) (ls := [0, 1, 2, 3]) F.f_fits_labels ⟨rfl, rfl, rfl, by decide +kernel, rfl, by decide +kernel, by decide +kernel⟩ (by decide +kernel) (fun _ _ _ _ _ _ us hl => match us, hl with | [_, _], _ => rfl) fun X W B C hc T hsc => by
    replace hc := hc rfl
    exact (q_cons (q_if (t_bool (t_or (t_not (t_val (s_isa (T := "tuple") C 0 1 (C.mk' F.n_isinstance) (C.mk' F.n_tuple) (s_var C 0)))) (t_or1 (t_cmp (e_ne C.rm) (s_callB C d_len 2 (C.mk' F.n_len) (s_acons (s_var C 0) s_anil)) (s_callB C d_len 2 (C.mk' F.n_len) (s_acons (s_var C 1) s_anil)) (nomark _))))) (q_one (q_ret s_bl)) q_nil) (q_cons (q_for C hc (i_zip C 3 (C.mk' F.n_zip) (s_var C 0) (s_var C 1)) (g_tup hc (g_cons (g_name C 2) (g_cons (g_name C 3) g_nil)) (tgl_cons (tgl_cons tgl_nil))) (q_one (q_if (t_not (t_val (s_call C 4 (c_is_number F) (by decide) (fun _ => hc) (s_acons (s_var C 2) (s_acons s_int (s_acons (s_bin d_sub (s_var C 3) s_int) s_anil)))))) (q_one (q_ret s_bl)) q_nil))) (q_one (q_ret s_bl))))
noncomputable def b_are_rows : MS := (mSeq (mIfS (mNot (mTru (m1 (vIsa "tuple") (mVar 0)))) (mRet (mC (.bool false))) mPass) (mSeq (mSet 2 (mC .none)) (mSeq (mFor (mItems (mVar 0)) (tgN 3) (mSeq (mIfS (mOr (mNot (mTru (mCall m_fits_labels (mCons (mVar 3) (mCons (mVar 1) mNil))))) (mAnd (m2B dIsNot (mVar 2) (mC .none)) (m2B dLe (mVar 3) (mVar 2)))) (mRet (mC (.bool false))) mPass) (mSet 2 (mVar 3)))) (mRet (mC (.bool true))))))
noncomputable def m_are_rows : MF := mFn 2 4 b_are_rows
theorem c_are_rows {P : Pg} (F : Pf P) : Cal P true 3 "are_rows" m_are_rows :=
  cal_def (st := topS 17) (N := ["rows", "labels", "ahead", "row"]) (Nv := ["rows", "labels", "ahead", "row"]) (G := ["isinstance", "tuple", "fits_labels"]) (ps := ["rows", "labels"]) (ls := [0, 1, 2, 3]) F.f_are_rows ⟨rfl, rfl, rfl, by decide +kernel, rfl, by decide +kernel, by decide +kernel⟩ (by decide +kernel) (fun _ _ _ _ _ _ us hl => match us, hl with | [_, _], _ => rfl) fun X W B C hc T hsc => by
    replace hc := hc rfl
    exact (q_cons (q_if (t_not (t_val (s_isa (T := "tuple") C 0 1 (C.mk' F.n_isinstance) (C.mk' F.n_tuple) (s_var C 0)))) (q_one (q_ret s_bl)) q_nil) (q_cons (q_set C 2 s_non) (q_cons (q_for C hc (i_val (s_var C 0)) (g_name C 3) (q_cons (q_if (t_bool (t_or (t_not (t_val (s_call C 2 (c_fits_labels F) (by decide) (fun _ => hc) (s_acons (s_var C 3) (s_acons (s_var C 1) s_anil))))) (t_or1 (t_bool (t_and (t_cmp e_isnot (s_var C 2) s_non (nomark _)) (t_and1 (t_cmp (e_le C.rm) (s_var C 3) (s_var C 2) (nomark _)))))))) (q_one (q_ret s_bl)) q_nil) (q_one (q_set C 2 (s_var C 3))))) (q_one (q_ret s_bl)))))
noncomputable def b_check_task : MS := (mSeq (mIfS (mOr (mNot (mTru (m1 (vIsa "tuple") (mVar 0)))) (mOr (m2B dNe (mL vLen (mCons (mVar 0) mNil)) (mC (.int 5))) (mOr (m2B dNe (m2 vIx (mVar 0) (mC (.int 0))) (mC (.str "task"))) (mNot (mTru (mCall m_is_number (mCons (m2 vIx (mVar 0) (mC (.int 1))) (mCons (mC (.int 2)) (mCons (mC (.int 4)) mNil))))))))) (mRaise "BadTask") mPass) (mSeq (mSet 1 (m2 vIx (mVar 0) (mC (.int 2)))) (mSeq (mIfS (mOr (mNot (mTru (m1 (vIsa "tuple") (mVar 1)))) (mOr (m2B dNe (mL vLen (mCons (mVar 1) mNil)) (m2 vIx (mVar 0) (mC (.int 1)))) (mNot (mTru (mCall m_fits_bounds (mCons (mVar 1) mNil)))))) (mRaise "BadTask") mPass) (mFor (mItems (mSl (mVar 0) (mPart (mC (.int 3))) mNone)) (tgN 2) (mSeq (mIfS (mOr (mNot (mTru (m1 (vIsa "tuple") (mVar 2)))) (mNot (mCh dLe dLe (mC (.int 1)) (mL vLen (mCons (mVar 2) mNil)) (mC (.int 4))))) (mRaise "BadTask") mPass) (mFor (mItems (mVar 2)) (tgN 3) (mIfS (mNot (mTru (mCall m_are_rows (mCons (mVar 3) (mCons (mVar 1) mNil))))) (mRaise "BadTask") mPass)))))))
noncomputable def m_check_task : MF := mFn 1 4 b_check_task
theorem c_check_task {P : Pg} (F : Pf P) : Cal P true 4 "check_task" m_check_task :=
  cal_def (st := topS 18) (N := ["task", "labels", "inputs", "rows"]) (Nv := ["task", "labels", "inputs", "rows"]) (G := ["isinstance", "tuple", "len", "is_number", "BadTask", "fits_bounds", "MOST_INPUTS", "are_rows"]) (ps := ["task"]) (ls := [0, 1, 2, 3]) F.f_check_task ⟨rfl, rfl, rfl, by decide +kernel, rfl, by decide +kernel, by decide +kernel⟩ (by decide +kernel) (fun _ _ _ _ _ _ us hl => match us, hl with | [_], _ => rfl) fun X W B C hc T hsc => by
    replace hc := hc rfl
    exact (q_cons (q_if (t_bool (t_or (t_not (t_val (s_isa (T := "tuple") C 0 1 (C.mk' F.n_isinstance) (C.mk' F.n_tuple) (s_var C 0)))) (t_or (t_cmp (e_ne C.rm) (s_callB C d_len 2 (C.mk' F.n_len) (s_acons (s_var C 0) s_anil)) s_int (nomark _)) (t_or (t_cmp (e_ne C.rm) (s_ix (s_var C 0) s_int) s_str (nomark _)) (t_or1 (t_not (t_val (s_call C 3 (c_is_number F) (by decide) (fun _ => hc) (s_acons (s_ix (s_var C 0) s_int) (s_acons s_int (s_acons s_int s_anil))))))))))) (q_one (let ⟨_, E⟩ := F.e_BadTask; q_raise C hc 4 (E.at C))) q_nil) (q_cons (q_set C 1 (s_ix (s_var C 0) s_int)) (q_cons (q_if (t_bool (t_or (t_not (t_val (s_isa (T := "tuple") C 0 1 (C.mk' F.n_isinstance) (C.mk' F.n_tuple) (s_var C 1)))) (t_or (t_cmp (e_ne C.rm) (s_callB C d_len 2 (C.mk' F.n_len) (s_acons (s_var C 1) s_anil)) (s_ix (s_var C 0) s_int) (nomark _)) (t_or1 (t_not (t_val (s_call C 5 (c_fits_bounds F) (by decide) (fun _ => hc) (s_acons (s_var C 1) s_anil)))))))) (q_one (let ⟨_, E⟩ := F.e_BadTask; q_raise C hc 4 (E.at C))) q_nil) (q_one (q_for C hc (i_val (s_slice (s_var C 0) (o_some s_int) o_none)) (g_name C 2) (q_cons (q_if (t_bool (t_or (t_not (t_val (s_isa (T := "tuple") C 0 1 (C.mk' F.n_isinstance) (C.mk' F.n_tuple) (s_var C 2)))) (t_or1 (t_not (t_chain (e_le C.rm) (e_le C.rm) s_int (s_callB C d_len 2 (C.mk' F.n_len) (s_acons (s_var C 2) s_anil)) (s_globE C 6 F.g_MOST_INPUTS)))))) (q_one (let ⟨_, E⟩ := F.e_BadTask; q_raise C hc 4 (E.at C))) q_nil) (q_one (q_for C hc (i_val (s_var C 2)) (g_name C 3) (q_one (q_if (t_not (t_val (s_call C 7 (c_are_rows F) (by decide) (fun _ => hc) (s_acons (s_var C 3) (s_acons (s_var C 1) s_anil))))) (q_one (let ⟨_, E⟩ := F.e_BadTask; q_raise C hc 4 (E.at C))) q_nil))))))))))
noncomputable def b__law_draws : MS := (mSeq (mSet 2 (mLc (mItems (mVar 0)) (tgN 5) mYes (mL (on1 vAbs) (mCons (mL (on1 vInt) (mCons (mVar 5) mNil)) mNil)) [5])) (mSeq (mSet 3 (mL vLst mNil)) (mSeq (mFor (mR1 (mVar 1)) (tgN 4) (mSeq (mSet 5 (mVar 4)) (mSeq (mIfS (m2B dGt (mL vLen (mCons (mVar 0) mNil)) (mC (.int 0))) (mSeq (mSet 6 (m2 vMod (mVar 4) (mL vLen (mCons (mVar 0) mNil)))) (mSeq (mSet 5 (mL (on1 vInt) (mCons (m2 vIx (mVar 0) (mVar 6)) mNil))) (mIfS (mAnd (m2B dGe (mVar 5) (m2 vPow (mC (.int 10)) (mC (.int 18)))) (m2B dGt (m2 vIx (mVar 2) (mVar 6)) (mC (.int 0)))) (mSeq (mApp 3 (m2 vMod (mL (on1 vInt) (mCons (m2 vIx (mVar 2) (mVar 6)) mNil)) (mC (.int 1000003)))) (mSeq (mSetI 2 (mVar 6) (m2 vDiv (mL (on1 vInt) (mCons (m2 vIx (mVar 2) (mVar 6)) mNil)) (mC (.int 1000003)))) (fun env S => .ct env S))) mPass))) mPass) (mSeq (mSet 7 (m2 vMod (mL (on1 vInt) (mCons (m2 vAdd (m2 vAdd (m2 vMul (mVar 5) (mC (.int 48271))) (m2 vMul (mVar 4) (mC (.int 69621)))) (mC (.int 11))) mNil)) (mC (.int 2147483647)))) (mSeq (mSet 7 (m2 vMod (mL (on1 vInt) (mCons (m2 vAdd (m2 vDiv (m2 vMul (mVar 7) (mVar 7)) (mC (.int 4096))) (mVar 7)) mNil)) (mC (.int 2147483629)))) (mApp 3 (m2 vMod (mL (on1 vInt) (mCons (m2 vAdd (m2 vDiv (m2 vMul (mVar 7) (mVar 7)) (mC (.int 4096))) (m2 vMul (mVar 4) (mC (.int 7919)))) mNil)) (mC (.int 2147483629))))))))) (mRet (mVar 3)))))
noncomputable def m__law_draws : MF := mFn 2 8 b__law_draws
theorem c__law_draws {P : Pg} (F : Pf P) : Cal P true 1 "_law_draws" m__law_draws :=
  cal_def (st := topS 20) (N := ["script", "many", "rests", "draws", "k", "cell", "at", "mixed"]) (Nv := ["script", "many", "rests", "draws", "k", "cell", "at", "mixed"]) (G := ["range", "len", "int"]) (ps := ["script", "many"]) (ls := [0, 1, 2, 3, 4, 5, 6, 7]) F.f__law_draws ⟨rfl, rfl, rfl, by decide +kernel, rfl, by decide +kernel, by decide +kernel⟩ (by decide +kernel) (fun _ _ _ _ _ _ us hl => match us, hl with | [_, _], _ => rfl) fun X W B C hc T hsc => by
    replace hc := hc rfl
    exact (q_cons (q_setLc C hc hsc 2 [("cell", 5)] ["", "", "", "", "", "cell", "", ""] ["abs", "int"] [5] (i_val (s_var C 0)) (fun X1 C1 hc1 hsc1 => ⟨(g_name C1 5), ts_nil, (s_callB C1 d_abs 0 (C1.mk' F.n_abs) (s_acons (s_callTy C1 d_int 1 (C1.mk' F.n_int) (s_acons (s_var C1 5) s_anil)) s_anil))⟩)) (q_cons (q_set C 3 (s_lst s_anil)) (q_cons (q_for C hc (i_rng1 C 0 (C.mk' F.n_range) (s_var C 1)) (g_name C 4) (q_cons (q_set C 5 (s_var C 4)) (q_cons (q_if (t_cmp (e_gt C.rm) (s_callB C d_len 1 (C.mk' F.n_len) (s_acons (s_var C 0) s_anil)) s_int (nomark _)) (q_cons (q_set C 6 (s_bin d_mod (s_var C 4) (s_callB C d_len 1 (C.mk' F.n_len) (s_acons (s_var C 0) s_anil)))) (q_cons (q_set C 5 (s_callTy C d_int 2 (C.mk' F.n_int) (s_acons (s_ix (s_var C 0) (s_var C 6)) s_anil))) (q_one (q_if (t_bool (t_and (t_cmp (e_ge C.rm) (s_var C 5) (s_bin d_pow s_int s_int) (nomark _)) (t_and1 (t_cmp (e_gt C.rm) (s_ix (s_var C 2) (s_var C 6)) s_int (nomark _))))) (q_cons (q_app C 3 (s_bin d_mod (s_callTy C d_int 2 (C.mk' F.n_int) (s_acons (s_ix (s_var C 2) (s_var C 6)) s_anil)) s_int)) (q_cons (q_seti C 2 (s_bin d_div (s_callTy C d_int 2 (C.mk' F.n_int) (s_acons (s_ix (s_var C 2) (s_var C 6)) s_anil)) s_int) (s_var C 6)) (q_one q_ct))) q_nil)))) q_nil) (q_cons (q_set C 7 (s_bin d_mod (s_callTy C d_int 2 (C.mk' F.n_int) (s_acons (s_bin d_add (s_bin d_add (s_bin d_mul (s_var C 5) s_int) (s_bin d_mul (s_var C 4) s_int)) s_int) s_anil)) s_int)) (q_cons (q_set C 7 (s_bin d_mod (s_callTy C d_int 2 (C.mk' F.n_int) (s_acons (s_bin d_add (s_bin d_div (s_bin d_mul (s_var C 7) (s_var C 7)) s_int) (s_var C 7)) s_anil)) s_int)) (q_one (q_app C 3 (s_bin d_mod (s_callTy C d_int 2 (C.mk' F.n_int) (s_acons (s_bin d_add (s_bin d_div (s_bin d_mul (s_var C 7) (s_var C 7)) s_int) (s_bin d_mul (s_var C 4) s_int)) s_anil)) s_int)))))))) (q_one (q_ret (s_var C 3))))))
noncomputable def b__law_take : MS := (mSeq (mSet 2 (mCix (mVar 0) (mC (.int 1)))) (mSeq (mSetC 0 (mC (.int 1)) (m2 vAdd (mVar 2) (mC (.int 1)))) (mSeq (mSet 3 (mCix (mVar 0) (mC (.int 0)))) (mSeq (mIfS (m2B dGe (mVar 2) (mL vLen (mCons (mVar 3) mNil))) (mRet (mC (.int 0))) mPass) (mRet (m2 vMod (m2 vDiv (mL (on1 vInt) (mCons (m2 vIx (mVar 3) (mVar 2)) mNil)) (mC (.int 7))) (mVar 1)))))))
noncomputable def m__law_take : MF := mFn 2 4 b__law_take
theorem c__law_take {P : Pg} (F : Pf P) : Cal P true 1 "_law_take" m__law_take :=
  cal_def (st := topS 21) (N := ["hand", "many", "at", "draws"]) (Nv := ["hand", "many", "at", "draws"]) (G := ["len", "int"]) (ps := ["hand", "many"]) (ls := [0, 1, 2, 3]) F.f__law_take ⟨rfl, rfl, rfl, by decide +kernel, rfl, by decide +kernel, by decide +kernel⟩ (by decide +kernel) (fun _ _ _ _ _ _ us hl => match us, hl with | [_, _], _ => rfl) fun X W B C hc T hsc => by
    replace hc := hc rfl
    exact (q_cons (q_set C 2 (s_cix (s_var C 0) s_int)) (q_cons (q_setc C 0 (s_bin d_add (s_var C 2) s_int) s_int) (q_cons (q_set C 3 (s_cix (s_var C 0) s_int)) (q_cons (q_if (t_cmp (e_ge C.rm) (s_var C 2) (s_callB C d_len 0 (C.mk' F.n_len) (s_acons (s_var C 3) s_anil)) (nomark _)) (q_one (q_ret s_int)) q_nil) (q_one (q_ret (s_bin d_mod (s_bin d_div (s_callTy C d_int 1 (C.mk' F.n_int) (s_acons (s_ix (s_var C 3) (s_var C 2)) s_anil)) s_int) (s_var C 1))))))))
noncomputable def b__law_integer : MS := (mRet (mAndV (m1 (vIsa "int") (mVar 0)) (mNotV (m1 (vIsa "bool") (mVar 0)))))
noncomputable def m__law_integer : MF := mFn 1 1 b__law_integer
theorem c__law_integer {P : Pg} (F : Pf P) : Cal P false 1 "_law_integer" m__law_integer :=
  cal_def (st := topS 22) (N := ["value"]) (Nv := ["value"]) (G := ["isinstance", "int", "bool"]) (ps := ["value"]) (ls := [0]) F.f__law_integer ⟨rfl, rfl, rfl, by decide +kernel, rfl, by decide +kernel, by decide +kernel⟩ (by decide +kernel) (fun _ _ _ _ _ _ us hl => match us, hl with | [_], _ => rfl) fun X W B C hc T hsc => by
    exact (q_one (q_ret (s_and (s_isa (T := "int") C 0 1 (C.mk' F.n_isinstance) (C.mk' F.n_int) (s_var C 0)) (s_one (s_not (s_isa (T := "bool") C 0 2 (C.mk' F.n_isinstance) (C.mk' F.n_bool) (s_var C 0)))))))
noncomputable def b__law_rows : MS := (mSeq (mSet 2 (mL vLst mNil)) (mSeq (mFor (mR1 (mCall m__law_take (mCons (mVar 0) (mCons (mC (.int 6)) mNil)))) (tgN 3) (mSeq (mSet 4 (mL (on1 vTupOf) (mCons (mLc (mItems (mVar 1)) (tgN 5) mYes (mCall m__law_take (mCons (mVar 0) (mCons (mVar 5) mNil))) [5]) mNil))) (mSeq (mIfS (m2B dEq (mCall m__law_take (mCons (mVar 0) (mCons (mC (.int 4)) mNil))) (mC (.int 0))) (mSet 4 (mL (on1 vTupOf) (mCons (mLc (mItems (mVar 1)) (tgN 5) mYes (m2 vSub (mVar 5) (mC (.int 1))) [5]) mNil))) mPass) (mIfS (m2B dNotIn (mVar 4) (mVar 2)) (mApp 2 (mVar 4)) mPass)))) (mRet (mL (on1 vTupOf) (mCons (mL (on1 vSorted) (mCons (mVar 2) mNil)) mNil)))))
noncomputable def m__law_rows : MF := mFn 2 6 b__law_rows
theorem c__law_rows {P : Pg} (F : Pf P) : Cal P true 2 "_law_rows" m__law_rows :=
  cal_def (st := topS 23) (N := ["hand", "labels", "rows", "k", "row", "many"]) (Nv := ["hand", "labels", "rows", "k", "row", ""]) (G := ["range", "_law_take", "tuple", "sorted"]) (ps := ["hand", "labels"]) (ls := [0, 1, 2, 3, 4]) F.f__law_rows ⟨rfl, rfl, rfl, by decide +kernel, rfl, by decide +kernel, by decide +kernel⟩ (by decide +kernel) (fun _ _ _ _ _ _ us hl => match us, hl with | [_, _], _ => rfl) fun X W B C hc T hsc => by
    replace hc := hc rfl
    exact (q_cons (q_set C 2 (s_lst s_anil)) (q_cons (q_for C hc (i_rng1 C 0 (C.mk' F.n_range) (s_call C 1 (c__law_take F) (by decide) (fun _ => hc) (s_acons (s_var C 0) (s_acons s_int s_anil)))) (g_name C 3) (q_cons (q_set C 4 (s_callTy C d_tupOf 2 (C.mk' F.n_tuple) (s_acons (s_lc C hc hsc [("many", 5)] ["hand", "", "", "", "", "many"] ["_law_take"] [5] (i_val (s_var C 1)) (fun X1 C1 hc1 hsc1 => ⟨(g_name C1 5), ts_nil, (s_call C1 0 (c__law_take F) (by decide) (fun _ => hc1) (s_acons (s_var C1 0) (s_acons (s_var C1 5) s_anil)))⟩)) s_anil))) (q_cons (q_if (t_cmp (e_eq C.rm) (s_call C 1 (c__law_take F) (by decide) (fun _ => hc) (s_acons (s_var C 0) (s_acons s_int s_anil))) s_int (nomark _)) (q_one (q_set C 4 (s_callTy C d_tupOf 2 (C.mk' F.n_tuple) (s_acons (s_lc C hc hsc [("many", 5)] ["", "", "", "", "", "many"] [] [5] (i_val (s_var C 1)) (fun X1 C1 hc1 hsc1 => ⟨(g_name C1 5), ts_nil, (s_bin d_sub (s_var C1 5) s_int)⟩)) s_anil)))) q_nil) (q_one (q_if (t_cmp (e_notin C.rm) (s_var C 4) (s_var C 2) (by with_unfolding_all rfl)) (q_one (q_app C 2 (s_var C 4))) q_nil))))) (q_one (q_ret (s_callTy C d_tupOf 2 (C.mk' F.n_tuple) (s_acons (s_callB C (d_sorted C.rm) 3 (C.mk' F.n_sorted) (s_acons (s_var C 2) s_anil)) s_anil))))))
noncomputable def b__law_labels : MS := (mSeq (mSet 2 (mCall m__law_take (mCons (mVar 0) (mCons (mC (.int 4)) mNil)))) (mSeq (mIfS (m2B dEq (mVar 2) (mC (.int 0))) (mSeq (mSet 3 (mL vLst (mCons (mL vLst (mCons (mL vTup (mCons (mC (.int 60)) (mCons (mC (.int 60)) mNil))) (mCons (mL vTup (mCons (mC (.int 1)) (mCons (mC (.int 60)) mNil))) (mCons (mL vTup (mCons (mC (.int 59)) (mCons (mC (.int 60)) mNil))) mNil)))) (mCons (mL vLst (mCons (mL vTup (mCons (mC (.int 20)) (mCons (mC (.int 20)) (mCons (mC (.int 10)) mNil)))) (mCons (mL vTup (mCons (mC (.int 16)) (mCons (mC (.int 16)) (mCons (mC (.int 15)) mNil)))) (mCons (mL vTup (mCons (mC (.int 60)) (mCons (mC (.int 60)) (mCons (mC (.int 1)) mNil)))) mNil)))) mNil)))) (mSeq (mApp 3 (mL vLst (mCons (mL vTup (mCons (mC (.int 10)) (mCons (mC (.int 10)) (mCons (mC (.int 10)) (mCons (mC (.int 4)) mNil))))) (mCons (mL vTup (mCons (mC (.int 8)) (mCons (mC (.int 8)) (mCons (mC (.int 8)) (mCons (mC (.int 7)) mNil))))) (mCons (mL vTup (mCons (mC (.int 1)) (mCons (mC (.int 60)) (mCons (mC (.int 1)) (mCons (mC (.int 60)) mNil))))) mNil))))) (mRet (m2 vIx (m2 vIx (mVar 3) (m2 vSub (mVar 1) (mC (.int 2)))) (mCall m__law_take (mCons (mVar 0) (mCons (mC (.int 3)) mNil))))))) mPass) (mRet (mL (on1 vTupOf) (mCons (mLc (mR1 (mVar 1)) (tgN 4) mYes (m2 vAdd (mC (.int 1)) (mCall m__law_take (mCons (mVar 0) (mCons (mC (.int 3)) mNil)))) [4]) mNil)))))
noncomputable def m__law_labels : MF := mFn 2 5 b__law_labels
theorem c__law_labels {P : Pg} (F : Pf P) : Cal P true 2 "_law_labels" m__law_labels :=
  cal_def (st := topS 24) (N := ["hand", "colours", "shape", "wide", "c"]) (Nv := ["hand", "colours", "shape", "wide", ""]) (G := ["_law_take", "tuple", "range"]) (ps := ["hand", "colours"]) (ls := [0, 1, 2, 3]) F.f__law_labels ⟨rfl, rfl, rfl, by decide +kernel, rfl, by decide +kernel, by decide +kernel⟩ (by decide +kernel) (fun _ _ _ _ _ _ us hl => match us, hl with | [_, _], _ => rfl) fun X W B C hc T hsc => by
    replace hc := hc rfl
    exact (q_cons (q_set C 2 (s_call C 0 (c__law_take F) (by decide) (fun _ => hc) (s_acons (s_var C 0) (s_acons s_int s_anil)))) (q_cons (q_if (t_cmp (e_eq C.rm) (s_var C 2) s_int (nomark _)) (q_cons (q_set C 3 (s_lst (s_acons (s_lst (s_acons (s_tup (s_acons s_int (s_acons s_int s_anil))) (s_acons (s_tup (s_acons s_int (s_acons s_int s_anil))) (s_acons (s_tup (s_acons s_int (s_acons s_int s_anil))) s_anil)))) (s_acons (s_lst (s_acons (s_tup (s_acons s_int (s_acons s_int (s_acons s_int s_anil)))) (s_acons (s_tup (s_acons s_int (s_acons s_int (s_acons s_int s_anil)))) (s_acons (s_tup (s_acons s_int (s_acons s_int (s_acons s_int s_anil)))) s_anil)))) s_anil)))) (q_cons (q_app C 3 (s_lst (s_acons (s_tup (s_acons s_int (s_acons s_int (s_acons s_int (s_acons s_int s_anil))))) (s_acons (s_tup (s_acons s_int (s_acons s_int (s_acons s_int (s_acons s_int s_anil))))) (s_acons (s_tup (s_acons s_int (s_acons s_int (s_acons s_int (s_acons s_int s_anil))))) s_anil))))) (q_one (q_ret (s_ix (s_ix (s_var C 3) (s_bin d_sub (s_var C 1) s_int)) (s_call C 0 (c__law_take F) (by decide) (fun _ => hc) (s_acons (s_var C 0) (s_acons s_int s_anil)))))))) q_nil) (q_one (q_ret (s_callTy C d_tupOf 1 (C.mk' F.n_tuple) (s_acons (s_lc C hc hsc [("c", 4)] ["hand", "", "", "", "c"] ["_law_take"] [4] (i_rng1 C 2 (C.mk' F.n_range) (s_var C 1)) (fun X1 C1 hc1 hsc1 => ⟨(g_name C1 4), ts_nil, (s_bin d_add s_int (s_call C1 0 (c__law_take F) (by decide) (fun _ => hc1) (s_acons (s_var C1 0) (s_acons s_int s_anil))))⟩)) s_anil))))))
noncomputable def b__law_task : MS := (mSeq (mSet 1 (m2 vAdd (mC (.int 2)) (mCall m__law_take (mCons (mVar 0) (mCons (mC (.int 3)) mNil))))) (mSeq (mFrz 1 (mSet 2 (mCall m__law_labels (mCons (mVar 0) (mCons (mVar 1) mNil))))) (mSeq (mFrz 2 (mSet 3 (mL (on1 vTupOf) (mCons (mLc (mR1 (m2 vAdd (mC (.int 1)) (mCall m__law_take (mCons (mVar 0) (mCons (mC (.int 4)) mNil))))) (tgN 5) mYes (mCall m__law_rows (mCons (mVar 0) (mCons (mVar 2) mNil))) [5]) mNil)))) (mSeq (mFrz 2 (mSet 4 (mL (on1 vTupOf) (mCons (mLc (mR1 (m2 vAdd (mC (.int 1)) (mCall m__law_take (mCons (mVar 0) (mCons (mC (.int 4)) mNil))))) (tgN 6) mYes (mCall m__law_rows (mCons (mVar 0) (mCons (mVar 2) mNil))) [6]) mNil)))) (mFrz 2 (mFrz 1 (mRet (mL vTup (mCons (mC (.str "task")) (mCons (mVar 1) (mCons (mVar 2) (mCons (mVar 3) (mCons (mVar 4) mNil)))))))))))))
noncomputable def m__law_task : MF := mFn 1 7 b__law_task
theorem c__law_task {P : Pg} (F : Pf P) : Cal P true 3 "_law_task" m__law_task :=
  cal_def (st := topS 25) (N := ["hand", "colours", "labels", "white", "black", "x", "y"]) (Nv := ["hand", "colours", "labels", "white", "black", "", ""]) (G := ["_law_take", "_law_labels", "tuple", "range"]) (ps := ["hand"]) (ls := [0, 1, 2, 3, 4]) F.f__law_task ⟨rfl, rfl, rfl, by decide +kernel, rfl, by decide +kernel, by decide +kernel⟩ (by decide +kernel) (fun _ _ _ _ _ _ us hl => match us, hl with | [_], _ => rfl) fun X W B C hc T hsc => by
    replace hc := hc rfl
    exact (q_cons (q_set C 1 (s_bin d_add s_int (s_call C 0 (c__law_take F) (by decide) (fun _ => hc) (s_acons (s_var C 0) (s_acons s_int s_anil))))) (q_cons (g_frz 1 (q_set C 2 (s_call C 1 (c__law_labels F) (by decide) (fun _ => hc) (s_acons (s_var C 0) (s_acons (s_var C 1) s_anil))))) (q_cons (g_frz 2 (q_set C 3 (s_callTy C d_tupOf 2 (C.mk' F.n_tuple) (s_acons (s_lc C hc hsc [("x", 5)] ["hand", "", "labels", "", "", "x", ""] ["_law_rows"] [5] (i_rng1 C 3 (C.mk' F.n_range) (s_bin d_add s_int (s_call C 0 (c__law_take F) (by decide) (fun _ => hc) (s_acons (s_var C 0) (s_acons s_int s_anil))))) (fun X1 C1 hc1 hsc1 => ⟨(g_name C1 5), ts_nil, (s_call C1 0 (c__law_rows F) (by decide) (fun _ => hc1) (s_acons (s_var C1 0) (s_acons (s_var C1 2) s_anil)))⟩)) s_anil)))) (q_cons (g_frz 2 (q_set C 4 (s_callTy C d_tupOf 2 (C.mk' F.n_tuple) (s_acons (s_lc C hc hsc [("y", 6)] ["hand", "", "labels", "", "", "", "y"] ["_law_rows"] [6] (i_rng1 C 3 (C.mk' F.n_range) (s_bin d_add s_int (s_call C 0 (c__law_take F) (by decide) (fun _ => hc) (s_acons (s_var C 0) (s_acons s_int s_anil))))) (fun X1 C1 hc1 hsc1 => ⟨(g_name C1 6), ts_nil, (s_call C1 0 (c__law_rows F) (by decide) (fun _ => hc1) (s_acons (s_var C1 0) (s_acons (s_var C1 2) s_anil)))⟩)) s_anil)))) (q_one (g_frz 2 (g_frz 1 (q_ret (s_tup (s_acons s_str (s_acons (s_var C 1) (s_acons (s_var C 2) (s_acons (s_var C 3) (s_acons (s_var C 4) s_anil))))))))))))))
noncomputable def b__law_odd : MS := (mRet (m2 vIx (mL vLst (mCons (mC .none) (mCons (mC (.bool true)) (mCons (mC (.bool false)) (mCons (mC (.int 5)) (mCons (m1 vNeg (mC (.int 1))) (mCons (mC (.str "task")) (mCons (mC (.str "")) (mCons (mL vTup mNil) (mCons (mL vLst mNil) (mCons mDct0 (mCons (mDctI 0 1) (mCons (mL vTup (mCons (mL vTup mNil) mNil)) (mCons (mL vLst (mCons (mL vLst mNil) mNil)) (mCons (mC (.str "2")) mNil))))))))))))))) (mCall m__law_take (mCons (mVar 0) (mCons (mC (.int 14)) mNil)))))
noncomputable def m__law_odd : MF := mFn 1 1 b__law_odd
theorem c__law_odd {P : Pg} (F : Pf P) : Cal P true 2 "_law_odd" m__law_odd :=
  cal_def (st := topS 26) (N := ["hand"]) (Nv := ["hand"]) (G := ["_law_take"]) (ps := ["hand"]) (ls := [0]) F.f__law_odd ⟨rfl, rfl, rfl, by decide +kernel, rfl, by decide +kernel, by decide +kernel⟩ (by decide +kernel) (fun _ _ _ _ _ _ us hl => match us, hl with | [_], _ => rfl) fun X W B C hc T hsc => by
    replace hc := hc rfl
    exact (q_one (q_ret (s_ix (s_lst (s_acons s_non (s_acons s_bl (s_acons s_bl (s_acons s_int (s_acons (s_neg s_int) (s_acons s_str (s_acons s_str (s_acons (s_tup s_anil) (s_acons (s_lst s_anil) (s_acons s_dct0 (s_acons s_dctI (s_acons (s_tup (s_acons (s_tup s_anil) s_anil)) (s_acons (s_lst (s_acons (s_lst s_anil) s_anil)) (s_acons s_str s_anil))))))))))))))) (s_call C 0 (c__law_take F) (by decide) (fun _ => hc) (s_acons (s_var C 0) (s_acons s_int s_anil))))))
noncomputable def b__law_label_changes : MS := (mSeq (mSet 2 (m2 vIx (mVar 1) (mC (.int 2)))) (mSeq (mSet 3 (mCall m__law_take (mCons (mVar 0) (mCons (mL vLen (mCons (mVar 2) mNil)) mNil)))) (mSeq (mSet 4 (m2 vIx (mL vLst (mCons (mC (.int 0)) (mCons (mC (.int 61)) (mCons (m1 vNeg (mC (.int 1))) (mCons (mC (.bool true)) (mCons (mC (.str "2")) (mCons (mC .none) (mCons (mL vTup (mCons (mC (.int 2)) mNil)) (mCons (mC (.int 60)) mNil))))))))) (mCall m__law_take (mCons (mVar 0) (mCons (mC (.int 8)) mNil))))) (mSeq (mSet 5 (mCall m__law_take (mCons (mVar 0) (mCons (mC (.int 6)) mNil)))) (mSeq (mIfS (m2B dEq (mVar 5) (mC (.int 0))) (mRet (mL (on1 vLstOf) (mCons (mVar 2) mNil))) mPass) (mSeq (mIfS (m2B dEq (mVar 5) (mC (.int 1))) (mRet (mSl (mVar 2) mNone (mPart (m1 vNeg (mC (.int 1)))))) mPass) (mSeq (mIfS (m2B dEq (mVar 5) (mC (.int 2))) (mRet (m2 vAdd (mVar 2) (mL vTup (mCons (mC (.int 2)) mNil)))) mPass) (mSeq (mIfS (m2B dEq (mVar 5) (mC (.int 3))) (mRet (m2 vIx (mL vLst (mCons (mL vTup (mCons (mC (.int 16)) (mCons (mC (.int 16)) (mCons (mC (.int 16)) mNil)))) (mCons (mL vTup (mCons (mC (.int 20)) (mCons (mC (.int 20)) (mCons (mC (.int 11)) mNil)))) (mCons (mL vTup (mCons (mC (.int 8)) (mCons (mC (.int 8)) (mCons (mC (.int 8)) (mCons (mC (.int 8)) mNil))))) (mCons (mL vTup (mCons (mC (.int 60)) (mCons (mC (.int 67)) mNil))) (mCons (mL vTup (mCons (mC (.int 10)) (mCons (mC (.int 10)) (mCons (mC (.int 41)) mNil)))) mNil)))))) (mCall m__law_take (mCons (mVar 0) (mCons (mC (.int 5)) mNil))))) mPass) (mRet (m2 vAdd (m2 vAdd (mSl (mVar 2) mNone (mPart (mVar 3))) (mL vTup (mCons (mVar 4) mNil))) (mSl (mVar 2) (mPart (m2 vAdd (mVar 3) (mC (.int 1)))) mNone)))))))))))
noncomputable def m__law_label_changes : MF := mFn 2 6 b__law_label_changes
theorem c__law_label_changes {P : Pg} (F : Pf P) : Cal P true 2 "_law_label_changes" m__law_label_changes :=
  cal_def (st := topS 27) (N := ["hand", "task", "labels", "at", "other", "shape"]) (Nv := ["hand", "task", "labels", "at", "other", "shape"]) (G := ["_law_take", "len", "list"]) (ps := ["hand", "task"]) (ls := [0, 1, 2, 3, 4, 5]) F.f__law_label_changes ⟨rfl, rfl, rfl, by decide +kernel, rfl, by decide +kernel, by decide +kernel⟩ (by decide +kernel) (fun _ _ _ _ _ _ us hl => match us, hl with | [_, _], _ => rfl) fun X W B C hc T hsc => by
    replace hc := hc rfl
    exact (q_cons (q_set C 2 (s_ix (s_var C 1) s_int)) (q_cons (q_set C 3 (s_call C 0 (c__law_take F) (by decide) (fun _ => hc) (s_acons (s_var C 0) (s_acons (s_callB C d_len 1 (C.mk' F.n_len) (s_acons (s_var C 2) s_anil)) s_anil)))) (q_cons (q_set C 4 (s_ix (s_lst (s_acons s_int (s_acons s_int (s_acons (s_neg s_int) (s_acons s_bl (s_acons s_str (s_acons s_non (s_acons (s_tup (s_acons s_int s_anil)) (s_acons s_int s_anil))))))))) (s_call C 0 (c__law_take F) (by decide) (fun _ => hc) (s_acons (s_var C 0) (s_acons s_int s_anil))))) (q_cons (q_set C 5 (s_call C 0 (c__law_take F) (by decide) (fun _ => hc) (s_acons (s_var C 0) (s_acons s_int s_anil)))) (q_cons (q_if (t_cmp (e_eq C.rm) (s_var C 5) s_int (nomark _)) (q_one (q_ret (s_callTy C d_lstOf 2 (C.mk' F.n_list) (s_acons (s_var C 2) s_anil)))) q_nil) (q_cons (q_if (t_cmp (e_eq C.rm) (s_var C 5) s_int (nomark _)) (q_one (q_ret (s_slice (s_var C 2) o_none (o_some (s_neg s_int))))) q_nil) (q_cons (q_if (t_cmp (e_eq C.rm) (s_var C 5) s_int (nomark _)) (q_one (q_ret (s_bin d_add (s_var C 2) (s_tup (s_acons s_int s_anil))))) q_nil) (q_cons (q_if (t_cmp (e_eq C.rm) (s_var C 5) s_int (nomark _)) (q_one (q_ret (s_ix (s_lst (s_acons (s_tup (s_acons s_int (s_acons s_int (s_acons s_int s_anil)))) (s_acons (s_tup (s_acons s_int (s_acons s_int (s_acons s_int s_anil)))) (s_acons (s_tup (s_acons s_int (s_acons s_int (s_acons s_int (s_acons s_int s_anil))))) (s_acons (s_tup (s_acons s_int (s_acons s_int s_anil))) (s_acons (s_tup (s_acons s_int (s_acons s_int (s_acons s_int s_anil)))) s_anil)))))) (s_call C 0 (c__law_take F) (by decide) (fun _ => hc) (s_acons (s_var C 0) (s_acons s_int s_anil)))))) q_nil) (q_one (q_ret (s_bin d_add (s_bin d_add (s_slice (s_var C 2) o_none (o_some (s_var C 3))) (s_tup (s_acons (s_var C 4) s_anil))) (s_slice (s_var C 2) (o_some (s_bin d_add (s_var C 3) s_int)) o_none))))))))))))
noncomputable def b__law_row_changes : MS := (mSeq (mSet 3 (mCall m__law_take (mCons (mVar 0) (mCons (mL vLen (mCons (mVar 1) mNil)) mNil)))) (mSeq (mSet 4 (m2 vIx (mL vLst (mCons (m2 vIx (mVar 2) (mVar 3)) (mCons (m1 vNeg (mC (.int 1))) (mCons (mC (.bool true)) (mCons (mC (.bool false)) (mCons (mC .none) (mCons (mC (.str "0")) (mCons (mL vTup (mCons (mC (.int 0)) mNil)) (mCons (m2 vSub (m2 vIx (mVar 2) (mVar 3)) (mC (.int 1))) mNil))))))))) (mCall m__law_take (mCons (mVar 0) (mCons (mC (.int 8)) mNil))))) (mSeq (mSet 5 (mCall m__law_take (mCons (mVar 0) (mCons (mC (.int 6)) mNil)))) (mSeq (mIfS (m2B dEq (mVar 5) (mC (.int 0))) (mRet (mL (on1 vLstOf) (mCons (mVar 1) mNil))) mPass) (mSeq (mIfS (m2B dEq (mVar 5) (mC (.int 1))) (mRet (mSl (mVar 1) mNone (mPart (m1 vNeg (mC (.int 1)))))) mPass) (mSeq (mIfS (m2B dEq (mVar 5) (mC (.int 2))) (mRet (m2 vAdd (mVar 1) (mL vTup (mCons (mC (.int 0)) mNil)))) mPass) (mSeq (mIfS (mAnd (m2B dEq (mVar 5) (mC (.int 3))) (m2B dIn (mC (.int 1)) (mVar 1))) (mSeq (mSet 3 (mMeth "tuple" (on2 vIndex) (mVar 1) (mCons (mC (.int 1)) mNil))) (mSet 4 (mC (.bool true)))) mPass) (mSeq (mIfS (mAnd (m2B dEq (mVar 5) (mC (.int 4))) (m2B dIn (mC (.int 0)) (mVar 1))) (mSeq (mSet 3 (mMeth "tuple" (on2 vIndex) (mVar 1) (mCons (mC (.int 0)) mNil))) (mSet 4 (mC (.bool false)))) mPass) (mRet (m2 vAdd (m2 vAdd (mSl (mVar 1) mNone (mPart (mVar 3))) (mL vTup (mCons (mVar 4) mNil))) (mSl (mVar 1) (mPart (m2 vAdd (mVar 3) (mC (.int 1)))) mNone)))))))))))
noncomputable def m__law_row_changes : MF := mFn 3 6 b__law_row_changes
theorem c__law_row_changes {P : Pg} (F : Pf P) : Cal P true 2 "_law_row_changes" m__law_row_changes :=
  cal_def (st := topS 28) (N := ["hand", "row", "labels", "at", "other", "shape"]) (Nv := ["hand", "row", "labels", "at", "other", "shape"]) (G := ["_law_take", "len", "list"]) (ps := ["hand", "row", "labels"]) (ls := [0, 1, 2, 3, 4, 5]) F.f__law_row_changes ⟨rfl, rfl, rfl, by decide +kernel, rfl, by decide +kernel, by decide +kernel⟩ (by decide +kernel) (fun _ _ _ _ _ _ us hl => match us, hl with | [_, _, _], _ => rfl) fun X W B C hc T hsc => by
    replace hc := hc rfl
    exact (q_cons (q_set C 3 (s_call C 0 (c__law_take F) (by decide) (fun _ => hc) (s_acons (s_var C 0) (s_acons (s_callB C d_len 1 (C.mk' F.n_len) (s_acons (s_var C 1) s_anil)) s_anil)))) (q_cons (q_set C 4 (s_ix (s_lst (s_acons (s_ix (s_var C 2) (s_var C 3)) (s_acons (s_neg s_int) (s_acons s_bl (s_acons s_bl (s_acons s_non (s_acons s_str (s_acons (s_tup (s_acons s_int s_anil)) (s_acons (s_bin d_sub (s_ix (s_var C 2) (s_var C 3)) s_int) s_anil))))))))) (s_call C 0 (c__law_take F) (by decide) (fun _ => hc) (s_acons (s_var C 0) (s_acons s_int s_anil))))) (q_cons (q_set C 5 (s_call C 0 (c__law_take F) (by decide) (fun _ => hc) (s_acons (s_var C 0) (s_acons s_int s_anil)))) (q_cons (q_if (t_cmp (e_eq C.rm) (s_var C 5) s_int (nomark _)) (q_one (q_ret (s_callTy C d_lstOf 2 (C.mk' F.n_list) (s_acons (s_var C 1) s_anil)))) q_nil) (q_cons (q_if (t_cmp (e_eq C.rm) (s_var C 5) s_int (nomark _)) (q_one (q_ret (s_slice (s_var C 1) o_none (o_some (s_neg s_int))))) q_nil) (q_cons (q_if (t_cmp (e_eq C.rm) (s_var C 5) s_int (nomark _)) (q_one (q_ret (s_bin d_add (s_var C 1) (s_tup (s_acons s_int s_anil))))) q_nil) (q_cons (q_if (t_bool (t_and (t_cmp (e_eq C.rm) (s_var C 5) s_int (nomark _)) (t_and1 (t_cmp (e_in C.rm) s_int (s_var C 1) (by with_unfolding_all rfl))))) (q_cons (q_set C 3 (s_meth PySem.F.plainAttrs_tuple PySem.F.slot_tuple_index PySem.F.type_tuple_index d_index (s_var C 1) (s_acons s_int s_anil))) (q_one (q_set C 4 s_bl))) q_nil) (q_cons (q_if (t_bool (t_and (t_cmp (e_eq C.rm) (s_var C 5) s_int (nomark _)) (t_and1 (t_cmp (e_in C.rm) s_int (s_var C 1) (by with_unfolding_all rfl))))) (q_cons (q_set C 3 (s_meth PySem.F.plainAttrs_tuple PySem.F.slot_tuple_index PySem.F.type_tuple_index d_index (s_var C 1) (s_acons s_int s_anil))) (q_one (q_set C 4 s_bl))) q_nil) (q_one (q_ret (s_bin d_add (s_bin d_add (s_slice (s_var C 1) o_none (o_some (s_var C 3))) (s_tup (s_acons (s_var C 4) s_anil))) (s_slice (s_var C 1) (o_some (s_bin d_add (s_var C 3) s_int)) o_none))))))))))))
noncomputable def b__law_rows_changes : MS := (mSeq (mSet 3 (mCall m__law_take (mCons (mVar 0) (mCons (mC (.int 6)) mNil)))) (mSeq (mIfS (m2B dEq (mVar 3) (mC (.int 0))) (mRet (mL (on1 vLstOf) (mCons (mVar 1) mNil))) mPass) (mSeq (mIfS (m2B dEq (mVar 3) (mC (.int 1))) (mRet (mCall m__law_odd (mCons (mVar 0) mNil))) mPass) (mSeq (mIfS (m2B dEq (mL vLen (mCons (mVar 1) mNil)) (mC (.int 0))) (mRet (m2 vAdd (mL vTup (mCons (mL (on1 vTupOf) (mCons (mLc (mItems (mVar 2)) (tgN 6) mYes (mC (.int 0)) [6]) mNil)) mNil)) (mVar 1))) mPass) (mSeq (mSet 4 (mCall m__law_take (mCons (mVar 0) (mCons (mL vLen (mCons (mVar 1) mNil)) mNil)))) (mSeq (mIfS (m2B dEq (mVar 3) (mC (.int 2))) (mRet (m2 vAdd (m2 vAdd (mSl (mVar 1) mNone (mPart (mVar 4))) (mL vTup (mCons (m2 vIx (mVar 1) (mVar 4)) mNil))) (mSl (mVar 1) (mPart (mVar 4)) mNone))) mPass) (mSeq (mIfS (m2B dEq (mVar 3) (mC (.int 3))) (mRet (mL (on1 vTupOf) (mCons (mLc (mR1 (mL vLen (mCons (mVar 1) mNil))) (tgN 5) mYes (m2 vIx (mVar 1) (m2 vSub (m2 vSub (mL vLen (mCons (mVar 1) mNil)) (mC (.int 1))) (mVar 5))) [5]) mNil))) mPass) (mRet (m2 vAdd (m2 vAdd (mSl (mVar 1) mNone (mPart (mVar 4))) (mL vTup (mCons (mCall m__law_row_changes (mCons (mVar 0) (mCons (m2 vIx (mVar 1) (mVar 4)) (mCons (mVar 2) mNil)))) mNil))) (mSl (mVar 1) (mPart (m2 vAdd (mVar 4) (mC (.int 1)))) mNone))))))))))
noncomputable def m__law_rows_changes : MF := mFn 3 7 b__law_rows_changes
theorem c__law_rows_changes {P : Pg} (F : Pf P) : Cal P true 3 "_law_rows_changes" m__law_rows_changes :=
  cal_def (st := topS 29) (N := ["hand", "rows", "labels", "shape", "at", "k", "many"]) (Nv := ["hand", "rows", "labels", "shape", "at", "", ""]) (G := ["_law_take", "list", "_law_odd", "len", "tuple", "range", "_law_row_changes"]) (ps := ["hand", "rows", "labels"]) (ls := [0, 1, 2, 3, 4]) F.f__law_rows_changes ⟨rfl, rfl, rfl, by decide +kernel, rfl, by decide +kernel, by decide +kernel⟩ (by decide +kernel) (fun _ _ _ _ _ _ us hl => match us, hl with | [_, _, _], _ => rfl) fun X W B C hc T hsc => by
    replace hc := hc rfl
    exact (q_cons (q_set C 3 (s_call C 0 (c__law_take F) (by decide) (fun _ => hc) (s_acons (s_var C 0) (s_acons s_int s_anil)))) (q_cons (q_if (t_cmp (e_eq C.rm) (s_var C 3) s_int (nomark _)) (q_one (q_ret (s_callTy C d_lstOf 1 (C.mk' F.n_list) (s_acons (s_var C 1) s_anil)))) q_nil) (q_cons (q_if (t_cmp (e_eq C.rm) (s_var C 3) s_int (nomark _)) (q_one (q_ret (s_call C 2 (c__law_odd F) (by decide) (fun _ => hc) (s_acons (s_var C 0) s_anil)))) q_nil) (q_cons (q_if (t_cmp (e_eq C.rm) (s_callB C d_len 3 (C.mk' F.n_len) (s_acons (s_var C 1) s_anil)) s_int (nomark _)) (q_one (q_ret (s_bin d_add (s_tup (s_acons (s_callTy C d_tupOf 4 (C.mk' F.n_tuple) (s_acons (s_lc C hc hsc [("many", 6)] ["", "", "", "", "", "", "many"] [] [6] (i_val (s_var C 2)) (fun X1 C1 hc1 hsc1 => ⟨(g_name C1 6), ts_nil, s_int⟩)) s_anil)) s_anil)) (s_var C 1)))) q_nil) (q_cons (q_set C 4 (s_call C 0 (c__law_take F) (by decide) (fun _ => hc) (s_acons (s_var C 0) (s_acons (s_callB C d_len 3 (C.mk' F.n_len) (s_acons (s_var C 1) s_anil)) s_anil)))) (q_cons (q_if (t_cmp (e_eq C.rm) (s_var C 3) s_int (nomark _)) (q_one (q_ret (s_bin d_add (s_bin d_add (s_slice (s_var C 1) o_none (o_some (s_var C 4))) (s_tup (s_acons (s_ix (s_var C 1) (s_var C 4)) s_anil))) (s_slice (s_var C 1) (o_some (s_var C 4)) o_none)))) q_nil) (q_cons (q_if (t_cmp (e_eq C.rm) (s_var C 3) s_int (nomark _)) (q_one (q_ret (s_callTy C d_tupOf 4 (C.mk' F.n_tuple) (s_acons (s_lc C hc hsc [("k", 5)] ["", "rows", "", "", "", "k", ""] ["len"] [5] (i_rng1 C 5 (C.mk' F.n_range) (s_callB C d_len 3 (C.mk' F.n_len) (s_acons (s_var C 1) s_anil))) (fun X1 C1 hc1 hsc1 => ⟨(g_name C1 5), ts_nil, (s_ix (s_var C1 1) (s_bin d_sub (s_bin d_sub (s_callB C1 d_len 0 (C1.mk' F.n_len) (s_acons (s_var C1 1) s_anil)) s_int) (s_var C1 5)))⟩)) s_anil)))) q_nil) (q_one (q_ret (s_bin d_add (s_bin d_add (s_slice (s_var C 1) o_none (o_some (s_var C 4))) (s_tup (s_acons (s_call C 6 (c__law_row_changes F) (by decide) (fun _ => hc) (s_acons (s_var C 0) (s_acons (s_ix (s_var C 1) (s_var C 4)) (s_acons (s_var C 2) s_anil)))) s_anil))) (s_slice (s_var C 1) (o_some (s_bin d_add (s_var C 4) s_int)) o_none)))))))))))
noncomputable def b__law_side_changes : MS := (mSeq (mSet 3 (mCall m__law_take (mCons (mVar 0) (mCons (mC (.int 7)) mNil)))) (mSeq (mIfS (m2B dEq (mVar 3) (mC (.int 0))) (mRet (mL (on1 vLstOf) (mCons (mVar 1) mNil))) mPass) (mSeq (mIfS (m2B dEq (mVar 3) (mC (.int 1))) (mRet (mCall m__law_odd (mCons (mVar 0) mNil))) mPass) (mSeq (mIfS (m2B dEq (mVar 3) (mC (.int 2))) (mRet (m2 vAdd (m2 vAdd (m2 vAdd (m2 vAdd (mVar 1) (mVar 1)) (mVar 1)) (mVar 1)) (mSl (mVar 1) mNone (mPart (mC (.int 1)))))) mPass) (mSeq (mSet 4 (mCall m__law_take (mCons (mVar 0) (mCons (mL vLen (mCons (mVar 1) mNil)) mNil)))) (mRet (m2 vAdd (m2 vAdd (mSl (mVar 1) mNone (mPart (mVar 4))) (mL vTup (mCons (mCall m__law_rows_changes (mCons (mVar 0) (mCons (m2 vIx (mVar 1) (mVar 4)) (mCons (mVar 2) mNil)))) mNil))) (mSl (mVar 1) (mPart (m2 vAdd (mVar 4) (mC (.int 1)))) mNone))))))))
noncomputable def m__law_side_changes : MF := mFn 3 5 b__law_side_changes
theorem c__law_side_changes {P : Pg} (F : Pf P) : Cal P true 4 "_law_side_changes" m__law_side_changes :=
  cal_def (st := topS 30) (N := ["hand", "side", "labels", "shape", "at"]) (Nv := ["hand", "side", "labels", "shape", "at"]) (G := ["_law_take", "list", "_law_odd", "len", "_law_rows_changes"]) (ps := ["hand", "side", "labels"]) (ls := [0, 1, 2, 3, 4]) F.f__law_side_changes ⟨rfl, rfl, rfl, by decide +kernel, rfl, by decide +kernel, by decide +kernel⟩ (by decide +kernel) (fun _ _ _ _ _ _ us hl => match us, hl with | [_, _, _], _ => rfl) fun X W B C hc T hsc => by
    replace hc := hc rfl
    exact (q_cons (q_set C 3 (s_call C 0 (c__law_take F) (by decide) (fun _ => hc) (s_acons (s_var C 0) (s_acons s_int s_anil)))) (q_cons (q_if (t_cmp (e_eq C.rm) (s_var C 3) s_int (nomark _)) (q_one (q_ret (s_callTy C d_lstOf 1 (C.mk' F.n_list) (s_acons (s_var C 1) s_anil)))) q_nil) (q_cons (q_if (t_cmp (e_eq C.rm) (s_var C 3) s_int (nomark _)) (q_one (q_ret (s_call C 2 (c__law_odd F) (by decide) (fun _ => hc) (s_acons (s_var C 0) s_anil)))) q_nil) (q_cons (q_if (t_cmp (e_eq C.rm) (s_var C 3) s_int (nomark _)) (q_one (q_ret (s_bin d_add (s_bin d_add (s_bin d_add (s_bin d_add (s_var C 1) (s_var C 1)) (s_var C 1)) (s_var C 1)) (s_slice (s_var C 1) o_none (o_some s_int))))) q_nil) (q_cons (q_set C 4 (s_call C 0 (c__law_take F) (by decide) (fun _ => hc) (s_acons (s_var C 0) (s_acons (s_callB C d_len 3 (C.mk' F.n_len) (s_acons (s_var C 1) s_anil)) s_anil)))) (q_one (q_ret (s_bin d_add (s_bin d_add (s_slice (s_var C 1) o_none (o_some (s_var C 4))) (s_tup (s_acons (s_call C 4 (c__law_rows_changes F) (by decide) (fun _ => hc) (s_acons (s_var C 0) (s_acons (s_ix (s_var C 1) (s_var C 4)) (s_acons (s_var C 2) s_anil)))) s_anil))) (s_slice (s_var C 1) (o_some (s_bin d_add (s_var C 4) s_int)) o_none)))))))))
noncomputable def b__law_changed : MS := (mSeq (mSet 2 (mCall m__law_take (mCons (mVar 0) (mCons (mC (.int 12)) mNil)))) (mSeq (mIfS (m2B dEq (mVar 2) (mC (.int 0))) (mRet (m2 vIx (mL vLst (mCons (mL (on1 vLstOf) (mCons (mVar 1) mNil)) (mCons (mSl (mVar 1) mNone (mPart (m1 vNeg (mC (.int 1))))) (mCons (m2 vAdd (mVar 1) (mL vTup (mCons (mL vTup mNil) mNil))) (mCons (mL vTup (mCons (mVar 1) mNil)) (mCons (mSl (mVar 1) (mPart (mC (.int 1))) mNone) mNil)))))) (mCall m__law_take (mCons (mVar 0) (mCons (mC (.int 5)) mNil))))) mPass) (mSeq (mIfS (m2B dEq (mVar 2) (mC (.int 1))) (mRet (m2 vAdd (mL vTup (mCons (m2 vIx (mL vLst (mCons (mC .none) (mCons (mC (.str "Task")) (mCons (mC (.str "tasks")) (mCons (mC (.str "")) (mCons (mL vTup (mCons (mC (.str "task")) mNil)) (mCons (mC (.bool true)) mNil))))))) (mCall m__law_take (mCons (mVar 0) (mCons (mC (.int 6)) mNil)))) mNil)) (mSl (mVar 1) (mPart (mC (.int 1))) mNone))) mPass) (mSeq (mIfS (m2B dEq (mVar 2) (mC (.int 2))) (mSeq (mSet 3 (m2 vIx (mL vLst (mCons (mC (.int 1)) (mCons (mC (.int 5)) (mCons (mC (.bool true)) (mCons (mC .none) (mCons (mC (.str "2")) (mCons (m2 vAdd (m2 vIx (mVar 1) (mC (.int 1))) (mC (.int 1))) (mCons (m2 vSub (m2 vIx (mVar 1) (mC (.int 1))) (mC (.int 1))) (mCons (m1 vNeg (mC (.int 2))) (mCons (mL vTup (mCons (mC (.int 2)) mNil)) mNil)))))))))) (mCall m__law_take (mCons (mVar 0) (mCons (mC (.int 9)) mNil))))) (mRet (m2 vAdd (mL vTup (mCons (m2 vIx (mVar 1) (mC (.int 0))) (mCons (mVar 3) mNil))) (mSl (mVar 1) (mPart (mC (.int 2))) mNone)))) mPass) (mSeq (mIfS (m2B dLt (mVar 2) (mC (.int 5))) (mRet (m2 vAdd (m2 vAdd (mSl (mVar 1) mNone (mPart (mC (.int 2)))) (mL vTup (mCons (mCall m__law_label_changes (mCons (mVar 0) (mCons (mVar 1) mNil))) mNil))) (mSl (mVar 1) (mPart (mC (.int 3))) mNone))) mPass) (mSeq (mIfS (m2B dLt (mVar 2) (mC (.int 8))) (mRet (m2 vAdd (m2 vAdd (mSl (mVar 1) mNone (mPart (mC (.int 3)))) (mL vTup (mCons (mCall m__law_side_changes (mCons (mVar 0) (mCons (m2 vIx (mVar 1) (mC (.int 3))) (mCons (m2 vIx (mVar 1) (mC (.int 2))) mNil)))) mNil))) (mSl (mVar 1) (mPart (mC (.int 4))) mNone))) mPass) (mSeq (mIfS (m2B dLt (mVar 2) (mC (.int 11))) (mRet (m2 vAdd (mSl (mVar 1) mNone (mPart (mC (.int 4)))) (mL vTup (mCons (mCall m__law_side_changes (mCons (mVar 0) (mCons (m2 vIx (mVar 1) (mC (.int 4))) (mCons (m2 vIx (mVar 1) (mC (.int 2))) mNil)))) mNil)))) mPass) (mRet (mCall m__law_odd (mCons (mVar 0) mNil))))))))))
noncomputable def m__law_changed : MF := mFn 2 4 b__law_changed
theorem c__law_changed {P : Pg} (F : Pf P) : Cal P true 5 "_law_changed" m__law_changed :=
  cal_def (st := topS 31) (N := ["hand", "task", "shape", "other"]) (Nv := ["hand", "task", "shape", "other"]) (G := ["_law_take", "list", "_law_label_changes", "_law_side_changes", "_law_odd"]) (ps := ["hand", "task"]) (ls := [0, 1, 2, 3]) F.f__law_changed ⟨rfl, rfl, rfl, by decide +kernel, rfl, by decide +kernel, by decide +kernel⟩ (by decide +kernel) (fun _ _ _ _ _ _ us hl => match us, hl with | [_, _], _ => rfl) fun X W B C hc T hsc => by
    replace hc := hc rfl
    exact (q_cons (q_set C 2 (s_call C 0 (c__law_take F) (by decide) (fun _ => hc) (s_acons (s_var C 0) (s_acons s_int s_anil)))) (q_cons (q_if (t_cmp (e_eq C.rm) (s_var C 2) s_int (nomark _)) (q_one (q_ret (s_ix (s_lst (s_acons (s_callTy C d_lstOf 1 (C.mk' F.n_list) (s_acons (s_var C 1) s_anil)) (s_acons (s_slice (s_var C 1) o_none (o_some (s_neg s_int))) (s_acons (s_bin d_add (s_var C 1) (s_tup (s_acons (s_tup s_anil) s_anil))) (s_acons (s_tup (s_acons (s_var C 1) s_anil)) (s_acons (s_slice (s_var C 1) (o_some s_int) o_none) s_anil)))))) (s_call C 0 (c__law_take F) (by decide) (fun _ => hc) (s_acons (s_var C 0) (s_acons s_int s_anil)))))) q_nil) (q_cons (q_if (t_cmp (e_eq C.rm) (s_var C 2) s_int (nomark _)) (q_one (q_ret (s_bin d_add (s_tup (s_acons (s_ix (s_lst (s_acons s_non (s_acons s_str (s_acons s_str (s_acons s_str (s_acons (s_tup (s_acons s_str s_anil)) (s_acons s_bl s_anil))))))) (s_call C 0 (c__law_take F) (by decide) (fun _ => hc) (s_acons (s_var C 0) (s_acons s_int s_anil)))) s_anil)) (s_slice (s_var C 1) (o_some s_int) o_none)))) q_nil) (q_cons (q_if (t_cmp (e_eq C.rm) (s_var C 2) s_int (nomark _)) (q_cons (q_set C 3 (s_ix (s_lst (s_acons s_int (s_acons s_int (s_acons s_bl (s_acons s_non (s_acons s_str (s_acons (s_bin d_add (s_ix (s_var C 1) s_int) s_int) (s_acons (s_bin d_sub (s_ix (s_var C 1) s_int) s_int) (s_acons (s_neg s_int) (s_acons (s_tup (s_acons s_int s_anil)) s_anil)))))))))) (s_call C 0 (c__law_take F) (by decide) (fun _ => hc) (s_acons (s_var C 0) (s_acons s_int s_anil))))) (q_one (q_ret (s_bin d_add (s_tup (s_acons (s_ix (s_var C 1) s_int) (s_acons (s_var C 3) s_anil))) (s_slice (s_var C 1) (o_some s_int) o_none))))) q_nil) (q_cons (q_if (t_cmp (e_lt C.rm) (s_var C 2) s_int (nomark _)) (q_one (q_ret (s_bin d_add (s_bin d_add (s_slice (s_var C 1) o_none (o_some s_int)) (s_tup (s_acons (s_call C 2 (c__law_label_changes F) (by decide) (fun _ => hc) (s_acons (s_var C 0) (s_acons (s_var C 1) s_anil))) s_anil))) (s_slice (s_var C 1) (o_some s_int) o_none)))) q_nil) (q_cons (q_if (t_cmp (e_lt C.rm) (s_var C 2) s_int (nomark _)) (q_one (q_ret (s_bin d_add (s_bin d_add (s_slice (s_var C 1) o_none (o_some s_int)) (s_tup (s_acons (s_call C 3 (c__law_side_changes F) (by decide) (fun _ => hc) (s_acons (s_var C 0) (s_acons (s_ix (s_var C 1) s_int) (s_acons (s_ix (s_var C 1) s_int) s_anil)))) s_anil))) (s_slice (s_var C 1) (o_some s_int) o_none)))) q_nil) (q_cons (q_if (t_cmp (e_lt C.rm) (s_var C 2) s_int (nomark _)) (q_one (q_ret (s_bin d_add (s_slice (s_var C 1) o_none (o_some s_int)) (s_tup (s_acons (s_call C 3 (c__law_side_changes F) (by decide) (fun _ => hc) (s_acons (s_var C 0) (s_acons (s_ix (s_var C 1) s_int) (s_acons (s_ix (s_var C 1) s_int) s_anil)))) s_anil))))) q_nil) (q_one (q_ret (s_call C 4 (c__law_odd F) (by decide) (fun _ => hc) (s_acons (s_var C 0) s_anil)))))))))))
noncomputable def b__law_rows_right : MS := (mSeq (mIfS (mNot (mTru (m1 (vIsa "tuple") (mVar 0)))) (mRet (mC (.bool false))) mPass) (mSeq (mSet 2 (mC .none)) (mSeq (mFor (mItemsT (mVar 0)) (tgN 3) (mSeq (mIfS (mOr (mNot (mTru (m1 (vIsa "tuple") (mVar 3)))) (m2B dNe (mL vLen (mCons (mVar 3) mNil)) (mL vLen (mCons (mVar 1) mNil)))) (mRet (mC (.bool false))) mPass) (mSeq (mFor (mR1 (mL vLen (mCons (mVar 3) mNil))) (tgN 4) (mIfS (mOr (mNot (mTru (mCall m__law_integer (mCons (m2 vIx (mVar 3) (mVar 4)) mNil)))) (mOr (m2B dLt (m2 vIx (mVar 3) (mVar 4)) (mC (.int 0))) (m2B dGe (m2 vIx (mVar 3) (mVar 4)) (m2 vIx (mVar 1) (mVar 4))))) (mRet (mC (.bool false))) mPass)) (mSeq (mIfS (mAnd (m2B dIsNot (mVar 2) (mC .none)) (mNot (m2B dLt (mVar 2) (mVar 3)))) (mRet (mC (.bool false))) mPass) (mSet 2 (mVar 3)))))) (mRet (mC (.bool true))))))
noncomputable def m__law_rows_right : MF := mFn 2 5 b__law_rows_right
theorem c__law_rows_right {P : Pg} (F : Pf P) : Cal P false 2 "_law_rows_right" m__law_rows_right :=
  cal_def (st := topS 32) (N := ["rows", "labels", "last", "row", "at"]) (Nv := ["rows", "labels", "last", "row", "at"]) (G := ["isinstance", "tuple", "len", "range", "_law_integer"]) (ps := ["rows", "labels"]) (ls := [0, 1, 2, 3, 4]) F.f__law_rows_right ⟨rfl, rfl, rfl, by decide +kernel, rfl, by decide +kernel, by decide +kernel⟩ (by decide +kernel) (fun _ _ _ _ _ _ us hl => match us, hl with | [_, _], _ => rfl) fun X W B C hc T hsc => by
    exact (q_cons (q_if (t_not (t_val (s_isa (T := "tuple") C 0 1 (C.mk' F.n_isinstance) (C.mk' F.n_tuple) (s_var C 0)))) (q_one (q_ret s_bl)) q_nil) (q_cons (q_set C 2 s_non) (q_cons (q_forM C (i_valT (s_var C 0)) (i_valTH (s_var C 0)) (g_name C 3) (q_cons (q_if (t_bool (t_or (t_not (t_val (s_isa (T := "tuple") C 0 1 (C.mk' F.n_isinstance) (C.mk' F.n_tuple) (s_var C 3)))) (t_or1 (t_cmp (e_ne C.rm) (s_callB C d_len 2 (C.mk' F.n_len) (s_acons (s_var C 3) s_anil)) (s_callB C d_len 2 (C.mk' F.n_len) (s_acons (s_var C 1) s_anil)) (nomark _))))) (q_one (q_ret s_bl)) q_nil) (q_cons (q_forM C (i_rng1 C 3 (C.mk' F.n_range) (s_callB C d_len 2 (C.mk' F.n_len) (s_acons (s_var C 3) s_anil))) (i_rng1H C 3 (C.mk' F.n_range) (s_callB C d_len 2 (C.mk' F.n_len) (s_acons (s_var C 3) s_anil))) (g_name C 4) (q_one (q_if (t_bool (t_or (t_not (t_val (s_call C 4 (c__law_integer F) (by decide) (fun z => Bool.noConfusion z) (s_acons (s_ix (s_var C 3) (s_var C 4)) s_anil)))) (t_or (t_cmp (e_lt C.rm) (s_ix (s_var C 3) (s_var C 4)) s_int (nomark _)) (t_or1 (t_cmp (e_ge C.rm) (s_ix (s_var C 3) (s_var C 4)) (s_ix (s_var C 1) (s_var C 4)) (nomark _)))))) (q_one (q_ret s_bl)) q_nil))) (q_cons (q_if (t_bool (t_and (t_cmp e_isnot (s_var C 2) s_non (nomark _)) (t_and1 (t_not (t_cmp (e_lt C.rm) (s_var C 2) (s_var C 3) (nomark _)))))) (q_one (q_ret s_bl)) q_nil) (q_one (q_set C 2 (s_var C 3))))))) (q_one (q_ret s_bl)))))
noncomputable def b__law_right : MS := (mSeq (mIfS (mOr (mNot (mTru (m1 (vIsa "tuple") (mVar 0)))) (mOr (m2B dNe (mL vLen (mCons (mVar 0) mNil)) (mC (.int 5))) (mOr (mNot (mTru (m1 (vIsa "str") (m2 vIx (mVar 0) (mC (.int 0)))))) (m2B dNe (m2 vIx (mVar 0) (mC (.int 0))) (mC (.str "task")))))) (mRet (mC (.bool false))) mPass) (mSeq (mIfS (mOr (mNot (mTru (mCall m__law_integer (mCons (m2 vIx (mVar 0) (mC (.int 1))) mNil)))) (mOr (m2B dLt (m2 vIx (mVar 0) (mC (.int 1))) (mC (.int 2))) (m2B dGt (m2 vIx (mVar 0) (mC (.int 1))) (mC (.int 4))))) (mRet (mC (.bool false))) mPass) (mSeq (mIfS (mOr (mNot (mTru (m1 (vIsa "tuple") (m2 vIx (mVar 0) (mC (.int 2)))))) (m2B dNe (mL vLen (mCons (m2 vIx (mVar 0) (mC (.int 2))) mNil)) (m2 vIx (mVar 0) (mC (.int 1))))) (mRet (mC (.bool false))) mPass) (mSeq (mSet 1 (mC (.int 1))) (mSeq (mFor (mItemsT (m2 vIx (mVar 0) (mC (.int 2)))) (tgN 2) (mSeq (mIfS (mOr (mNot (mTru (mCall m__law_integer (mCons (mVar 2) mNil)))) (mOr (m2B dLt (mVar 2) (mC (.int 1))) (m2B dGt (mVar 2) (mC (.int 60))))) (mRet (mC (.bool false))) mPass) (mSet 1 (m2 vMul (mVar 1) (mVar 2))))) (mSeq (mIfS (m2B dGt (mVar 1) (mC (.int 4000))) (mRet (mC (.bool false))) mPass) (mSeq (mFor (mItemsT (mSl (mVar 0) (mPart (mC (.int 3))) mNone)) (tgN 3) (mSeq (mIfS (mOr (mNot (mTru (m1 (vIsa "tuple") (mVar 3)))) (mOr (m2B dLt (mL vLen (mCons (mVar 3) mNil)) (mC (.int 1))) (m2B dGt (mL vLen (mCons (mVar 3) mNil)) (mC (.int 4))))) (mRet (mC (.bool false))) mPass) (mFor (mItemsT (mVar 3)) (tgN 4) (mIfS (mNot (mTru (mCall m__law_rows_right (mCons (mVar 4) (mCons (m2 vIx (mVar 0) (mC (.int 2))) mNil))))) (mRet (mC (.bool false))) mPass)))) (mRet (mC (.bool true))))))))))
noncomputable def m__law_right : MF := mFn 1 5 b__law_right
theorem c__law_right {P : Pg} (F : Pf P) : Cal P false 3 "_law_right" m__law_right :=
  cal_def (st := topS 33) (N := ["value", "product", "many", "side", "rows"]) (Nv := ["value", "product", "many", "side", "rows"]) (G := ["isinstance", "tuple", "len", "str", "_law_integer", "_law_rows_right"]) (ps := ["value"]) (ls := [0, 1, 2, 3, 4]) F.f__law_right ⟨rfl, rfl, rfl, by decide +kernel, rfl, by decide +kernel, by decide +kernel⟩ (by decide +kernel) (fun _ _ _ _ _ _ us hl => match us, hl with | [_], _ => rfl) fun X W B C hc T hsc => by
    exact (q_cons (q_if (t_bool (t_or (t_not (t_val (s_isa (T := "tuple") C 0 1 (C.mk' F.n_isinstance) (C.mk' F.n_tuple) (s_var C 0)))) (t_or (t_cmp (e_ne C.rm) (s_callB C d_len 2 (C.mk' F.n_len) (s_acons (s_var C 0) s_anil)) s_int (nomark _)) (t_or (t_not (t_val (s_isa (T := "str") C 0 3 (C.mk' F.n_isinstance) (C.mk' F.n_str) (s_ix (s_var C 0) s_int)))) (t_or1 (t_cmp (e_ne C.rm) (s_ix (s_var C 0) s_int) s_str (nomark _))))))) (q_one (q_ret s_bl)) q_nil) (q_cons (q_if (t_bool (t_or (t_not (t_val (s_call C 4 (c__law_integer F) (by decide) (fun z => Bool.noConfusion z) (s_acons (s_ix (s_var C 0) s_int) s_anil)))) (t_or (t_cmp (e_lt C.rm) (s_ix (s_var C 0) s_int) s_int (nomark _)) (t_or1 (t_cmp (e_gt C.rm) (s_ix (s_var C 0) s_int) s_int (nomark _)))))) (q_one (q_ret s_bl)) q_nil) (q_cons (q_if (t_bool (t_or (t_not (t_val (s_isa (T := "tuple") C 0 1 (C.mk' F.n_isinstance) (C.mk' F.n_tuple) (s_ix (s_var C 0) s_int)))) (t_or1 (t_cmp (e_ne C.rm) (s_callB C d_len 2 (C.mk' F.n_len) (s_acons (s_ix (s_var C 0) s_int) s_anil)) (s_ix (s_var C 0) s_int) (nomark _))))) (q_one (q_ret s_bl)) q_nil) (q_cons (q_set C 1 s_int) (q_cons (q_forM C (i_valT (s_ix (s_var C 0) s_int)) (i_valTH (s_ix (s_var C 0) s_int)) (g_name C 2) (q_cons (q_if (t_bool (t_or (t_not (t_val (s_call C 4 (c__law_integer F) (by decide) (fun z => Bool.noConfusion z) (s_acons (s_var C 2) s_anil)))) (t_or (t_cmp (e_lt C.rm) (s_var C 2) s_int (nomark _)) (t_or1 (t_cmp (e_gt C.rm) (s_var C 2) s_int (nomark _)))))) (q_one (q_ret s_bl)) q_nil) (q_one (q_set C 1 (s_bin d_mul (s_var C 1) (s_var C 2)))))) (q_cons (q_if (t_cmp (e_gt C.rm) (s_var C 1) s_int (nomark _)) (q_one (q_ret s_bl)) q_nil) (q_cons (q_forM C (i_valT (s_slice (s_var C 0) (o_some s_int) o_none)) (i_valTH (s_slice (s_var C 0) (o_some s_int) o_none)) (g_name C 3) (q_cons (q_if (t_bool (t_or (t_not (t_val (s_isa (T := "tuple") C 0 1 (C.mk' F.n_isinstance) (C.mk' F.n_tuple) (s_var C 3)))) (t_or (t_cmp (e_lt C.rm) (s_callB C d_len 2 (C.mk' F.n_len) (s_acons (s_var C 3) s_anil)) s_int (nomark _)) (t_or1 (t_cmp (e_gt C.rm) (s_callB C d_len 2 (C.mk' F.n_len) (s_acons (s_var C 3) s_anil)) s_int (nomark _)))))) (q_one (q_ret s_bl)) q_nil) (q_one (q_forM C (i_valT (s_var C 3)) (i_valTH (s_var C 3)) (g_name C 4) (q_one (q_if (t_not (t_val (s_call C 5 (c__law_rows_right F) (by decide) (fun z => Bool.noConfusion z) (s_acons (s_var C 4) (s_acons (s_ix (s_var C 0) s_int) s_anil))))) (q_one (q_ret s_bl)) q_nil)))))) (q_one (q_ret s_bl)))))))))
noncomputable def b__law_only_bad_task : MS := (mSeq (mIfS (mOr (mNot (mTru (mExIs true (mVar 0)))) (mNot (mTru (mExIs true (mVar 0))))) (mRet (mC (.bool false))) mPass) (mSeq (mIfS (mOr (mTru (mExIs false (mVar 0))) (mOr (mTru (mExIs false (mVar 0))) (mTru (mExIs false (mVar 0))))) (mRet (mC (.bool false))) mPass) (mSeq (mIfS (mOr (mTru (mExIs false (mVar 0))) (mOr (mTru (mExIs false (mVar 0))) (mTru (mExIs false (mVar 0))))) (mRet (mC (.bool false))) mPass) (mRet (mNotV (mExIs false (mVar 0)))))))
theorem c__law_only_bad_task {P : Pg} (F : Pf P) : CalE P 1 "_law_only_bad_task" F.x_D true :=
  cal_defE (st := topS 34) (N := ["fault"]) (Nv := ["fault"]) (G := ["isinstance", "LookError", "ValueError", "BadAlgorithm", "BadNetwork", "BadReach", "BadEasing", "NoRows", "TooMany", "BadText"]) (ls := [0]) F.f__law_only_bad_task ⟨rfl, rfl, rfl, by decide +kernel, rfl, by decide +kernel, by decide +kernel⟩ (by decide +kernel) (fun _ _ _ _ _ _ us hl => match us, hl with | [_], _ => rfl) (fun S => rfl) fun X W B C T hsc Z => by
    exact (q_cons (q_if (t_bool (t_or (t_not (t_val (s_exC (bb := true) C Z F.x_hx 0 1 F.n_isinstance (s_var C 0) F.i_LookError))) (t_or1 (t_not (t_val (s_exT (bb := true) (T := "ValueError") C Z F.x_hx 0 2 F.n_isinstance (s_var C 0) F.n_ValueError F.i_ValueError)))))) (q_one (q_ret s_bl)) q_nil) (q_cons (q_if (t_bool (t_or (t_val (s_exC (bb := false) C Z F.x_hx 0 3 F.n_isinstance (s_var C 0) F.i_BadAlgorithm)) (t_or (t_val (s_exC (bb := false) C Z F.x_hx 0 4 F.n_isinstance (s_var C 0) F.i_BadNetwork)) (t_or1 (t_val (s_exC (bb := false) C Z F.x_hx 0 5 F.n_isinstance (s_var C 0) F.i_BadReach)))))) (q_one (q_ret s_bl)) q_nil) (q_cons (q_if (t_bool (t_or (t_val (s_exC (bb := false) C Z F.x_hx 0 6 F.n_isinstance (s_var C 0) F.i_BadEasing)) (t_or (t_val (s_exC (bb := false) C Z F.x_hx 0 7 F.n_isinstance (s_var C 0) F.i_NoRows)) (t_or1 (t_val (s_exC (bb := false) C Z F.x_hx 0 8 F.n_isinstance (s_var C 0) F.i_TooMany)))))) (q_one (q_ret s_bl)) q_nil) (q_one (q_ret (s_not (s_exC (bb := false) C Z F.x_hx 0 9 F.n_isinstance (s_var C 0) F.i_BadText)))))))
noncomputable def b__law_asked : MS := (mSeq (mSet 1 (mL (on1 vRepr) (mCons (mVar 0) mNil))) (mSeq (mTryAs "BadTask" [] 3 (mSet 2 (mCall m_check_task (mCons (mVar 0) mNil))) (mRet (mAndV (mNotV (mCall m__law_right (mCons (mVar 0) mNil))) (mAndV (mCallE true (mVar 3)) (m2 (b2 dEq) (mL (on1 vRepr) (mCons (mVar 0) mNil)) (mVar 1)))))) (mRet (mAndV (m2 (b2 dIs) (mVar 2) (mC .none)) (mAndV (mCall m__law_right (mCons (mVar 0) mNil)) (m2 (b2 dEq) (mL (on1 vRepr) (mCons (mVar 0) mNil)) (mVar 1)))))))
noncomputable def m__law_asked : MF := mFn 1 4 b__law_asked
theorem c__law_asked {P : Pg} (F : Pf P) : Cal P true 5 "_law_asked" m__law_asked :=
  cal_def (st := topS 35) (N := ["value", "kept", "answer", "e"]) (Nv := ["value", "kept", "answer", "e"]) (G := ["repr", "check_task", "BadTask", "_law_right", "_law_only_bad_task"]) (ps := ["value"]) (ls := [0, 1, 2, 3]) F.f__law_asked ⟨rfl, rfl, rfl, by decide +kernel, rfl, by decide +kernel, by decide +kernel⟩ (by decide +kernel) (fun _ _ _ _ _ _ us hl => match us, hl with | [_], _ => rfl) fun X W B C hc T hsc => by
    replace hc := hc rfl
    exact (q_cons (q_set C 1 (s_callB C (d_repr C.rm C.gu) 0 (C.mk' F.n_repr) (s_acons (s_var C 0) s_anil))) (q_cons (let E := F.x_g; q_tryAs C hc T 3 [] 2 E.g E.self (fun _ z => nomatch z) (fun X1 W1 C1 hc1 T1 hsc1 => (q_one (q_set C1 2 (s_call C1 1 (c_check_task F) (by decide) (fun _ => hc1) (s_acons (s_var C1 0) s_anil))))) (fun X1 C1 Z hsc1 => (q_one (q_ret (s_and (s_not (s_call C1 3 (c__law_right F) (by decide) (fun z => Bool.noConfusion z) (s_acons (s_var C1 0) s_anil))) (s_and (s_callE C1 Z 4 (c__law_only_bad_task F) (by decide) (s_var C1 3)) (s_one (s_cmp (e_eq C1.rm) (s_callB C1 (d_repr C1.rm C1.gu) 0 (C1.mk' F.n_repr) (s_acons (s_var C1 0) s_anil)) (s_var C1 1) (nomark _)))))))) (hl := by rw [Env.kindOf, hsc]; rfl)) (q_one (q_ret (s_and (s_cmp e_is (s_var C 2) s_non (nomark _)) (s_and (s_call C 3 (c__law_right F) (by decide) (fun z => Bool.noConfusion z) (s_acons (s_var C 0) s_anil)) (s_one (s_cmp (e_eq C.rm) (s_callB C (d_repr C.rm C.gu) 0 (C.mk' F.n_repr) (s_acons (s_var C 0) s_anil)) (s_var C 1) (nomark _)))))))))
noncomputable def b__law_all : MS := (mSeq (mSet 1 (mL vLst (mCons (mCall m__law_draws (mCons (mVar 0) (mCons (mC (.int 150)) mNil))) (mCons (mC (.int 0)) mNil)))) (mCell 1 (mSeq (mSet 2 (mCall m__law_task (mCons (mVar 1) mNil))) (mSeq (mFrz 2 (mIfS (mNot (mTru (mCall m__law_asked (mCons (mVar 2) mNil)))) (mRet (mC (.bool false))) mPass)) (mSeq (mFor (mR1 (mC (.int 5))) (tgN 3) (mSeq (mFrz 2 (mSet 4 (mCall m__law_changed (mCons (mVar 1) (mCons (mVar 2) mNil))))) (mFrz 4 (mIfS (mOr (mNot (mTru (mCall m__law_asked (mCons (mVar 4) mNil)))) (mNot (mTru (mCall m__law_asked (mCons (mVar 4) mNil))))) (mRet (mC (.bool false))) mPass)))) (mFrz 2 (mRet (mCall m__law_asked (mCons (mVar 2) mNil)))))))))
noncomputable def m__law_all : MF := mFn 1 5 b__law_all
theorem c__law_all {P : Pg} (F : Pf P) : Cal P true 6 "_law_all" m__law_all :=
  cal_def (st := topS 36) (N := ["script", "hand", "task", "k", "value"]) (Nv := ["script", "hand", "task", "k", "value"]) (G := ["_law_draws", "_law_task", "_law_asked", "range", "_law_changed"]) (ps := ["script"]) (ls := [0, 1, 2, 3, 4]) F.f__law_all ⟨rfl, rfl, rfl, by decide +kernel, rfl, by decide +kernel, by decide +kernel⟩ (by decide +kernel) (fun _ _ _ _ _ _ us hl => match us, hl with | [_], _ => rfl) fun X W B C hc T hsc => by
    replace hc := hc rfl
    exact (q_cons (q_set C 1 (s_lst (s_acons (s_call C 0 (c__law_draws F) (by decide) (fun _ => hc) (s_acons (s_var C 0) (s_acons s_int s_anil))) (s_acons s_int s_anil)))) (gs_cell 1 (q_cons (q_set C 2 (s_call C 1 (c__law_task F) (by decide) (fun _ => hc) (s_acons (s_var C 1) s_anil))) (q_cons (g_frz 2 (q_if (t_not (t_val (s_call C 2 (c__law_asked F) (by decide) (fun _ => hc) (s_acons (s_var C 2) s_anil)))) (q_one (q_ret s_bl)) q_nil)) (q_cons (q_for C hc (i_rng1 C 3 (C.mk' F.n_range) s_int) (g_name C 3) (q_cons (g_frz 2 (q_set C 4 (s_call C 4 (c__law_changed F) (by decide) (fun _ => hc) (s_acons (s_var C 1) (s_acons (s_var C 2) s_anil))))) (q_one (g_frz 4 (q_if (t_bool (t_or (t_not (t_val (s_call C 2 (c__law_asked F) (by decide) (fun _ => hc) (s_acons (s_var C 4) s_anil)))) (t_or1 (t_not (t_val (s_call C 2 (c__law_asked F) (by decide) (fun _ => hc) (s_acons (s_var C 4) s_anil))))))) (q_one (q_ret s_bl)) q_nil))))) (q_one (g_frz 2 (q_ret (s_call C 2 (c__law_asked F) (by decide) (fun _ => hc) (s_acons (s_var C 2) s_anil))))))))))
noncomputable def b_law : MS := (mTry0 (mRet (mCall m__law_all (mCons (mVar 0) mNil))))
noncomputable def m_law : MF := mFn 1 1 b_law
theorem c_law {P : Pg} (F : Pf P) : Cal P true 7 "law" m_law :=
  cal_def (st := topS 37) (N := ["script"]) (Nv := ["script"]) (G := ["_law_all", "LookError"]) (ps := ["script"]) (ls := [0]) F.f_law ⟨rfl, rfl, rfl, by decide +kernel, rfl, by decide +kernel, by decide +kernel⟩ (by decide +kernel) (fun _ _ _ _ _ _ us hl => match us, hl with | [_], _ => rfl) fun X W B C hc T hsc => by
    replace hc := hc rfl
    exact (q_one (let ⟨_, E⟩ := F.e_LookError; q_try0 C hc T 1 E.g (fun X1 W1 C1 hc1 T1 hsc1 => (q_one (q_ret (s_call C1 0 (c__law_all F) (by decide) (fun _ => hc1) (s_acons (s_var C1 0) s_anil)))))))
end K01
end

section
set_option Elab.async false
set_option linter.all false
set_option maxRecDepth 100000
set_option maxHeartbeats 1000000
namespace K01
open PySem PySem.Spec PyProof.Rows L2 TL PySem.W

def isN (v : PyData) (lo hi : Int) : Bool := match v with
  | .int i => decide (lo ≤ i) && decide (i ≤ hi)
  | _ => false
theorem e_is_number (v : PyData) (lo hi : Int) (S : Sto) : m_is_number [.fr v, .fr (.int lo), .fr (.int hi)] S = .ok (.fr (.bool (isN v lo hi))) S := by
  cases v <;> simp [m_is_number, mFn, startE, slA, b_is_number, mAndV, mNotV, mCh, vIsa, isTy, tyName, isN]
  rename_i i
  by_cases h1 : lo ≤ i <;> simp [h1]

/-! ### the hand -/
def iL (xs : List Int) : List PyData := xs.map .int
@[simp] theorem iL_len (xs : List Int) : (iL xs).length = xs.length := by simp [iL]
def hd (ds : List Int) (n : Nat) : Sto := [.lst [.fr (.list (iL ds)), .fr (.int (n : Nat))]]
theorem iL_at {xs : List Int} {n : Nat} (h : n < xs.length) : L2.atI (iL xs) (n : Int) = some (.int xs[n]) := by
  refine L2.atI_nat ?_
  simp [iL, h]
theorem e_take (ds : List Int) (n : Nat) (many : Int) (h : 0 < many) : ∃ r, m__law_take [.rf 0, .fr (.int many)] (hd ds n) = .ok (.fr (.int r)) (hd ds (n + 1)) ∧ 0 ≤ r ∧ r < many := by
  by_cases hn : n < ds.length
  · refine ⟨ds[n] / 7 % many, ?_, Int.emod_nonneg _ (by omega), Int.emod_lt_of_pos _ h⟩
    have hn' : ¬ (ds.length : Int) ≤ n := by omega
    simp [m__law_take, mFn, startE, slA, b__law_take, mCix, mSetC, hd, L2.atI, L2.ixN, hn', vIx_lst (iL_at hn), vDiv_int, vMod_int h]
  · refine ⟨0, ?_, by omega, h⟩
    have hn' : (ds.length : Int) ≤ n := by omega
    simp [m__law_take, mFn, startE, slA, b__law_take, mCix, mSetC, hd, L2.atI, L2.ixN, hn']
end K01
end

section
set_option Elab.async false
set_option linter.all false
set_option maxRecDepth 100000
set_option maxHeartbeats 1000000
namespace K01
open PySem PySem.Spec PyProof.Rows L2 TL PySem.W

/-! ### rows of whole numbers -/
theorem plain_iL : ∀ xs : List Int, PyData.plainAll (iL xs) = true
  | [] => rfl
  | x :: xs => by simp only [iL, List.map_cons, PyData.plainAll, PyData.plain, Bool.true_and]; exact plain_iL xs
theorem alike_iL : ∀ xs ys : List Int, alikeAll (iL xs) (iL ys) = true
  | [], ys => by cases ys <;> rfl
  | x :: xs, [] => rfl
  | x :: xs, y :: ys => by simp only [iL, List.map_cons, alikeAll, alike, Bool.true_and]; exact alike_iL xs ys
theorem depth_iL : ∀ xs : List Int, PyData.depthAll (iL xs) = 0
  | [] => rfl
  | x :: xs => by simp only [iL, List.map_cons, PyData.depthAll, PyData.depth]; rw [show xs.map PyData.int = iL xs from rfl, depth_iL xs]; rfl
theorem dLt_iL (xs ys : List Int) : dLt (.tuple (iL xs)) (.tuple (iL ys)) = some (dataLt (.tuple (iL xs)) (.tuple (iL ys))) := by
  simp [dLt, PyData.plain, plain_iL, alike, alike_iL, notNone, shallow, PyData.depth, depth_iL]
theorem dGt_iL (xs ys : List Int) : dGt (.tuple (iL xs)) (.tuple (iL ys)) = some (dataLt (.tuple (iL ys)) (.tuple (iL xs))) := by
  simp [dGt, PyData.plain, plain_iL, alike, alike_iL, notNone, shallow, PyData.depth, depth_iL]
theorem dLe_iL (xs ys : List Int) : dLe (.tuple (iL xs)) (.tuple (iL ys)) = some (!dataLt (.tuple (iL ys)) (.tuple (iL xs))) := by
  simp [dLe, dGt_iL]

/-! ### a row fits -/
def zipAll : List PyData → List Int → Bool
  | x :: xs, l :: ls => isN x 0 (l - 1) && zipAll xs ls
  | _, _ => true
def rowOk (ls : List Int) (r : PyData) : Bool := match r with
  | .tuple xs => decide (xs.length = ls.length) && zipAll xs ls
  | _ => false
theorem isN_int {v : PyData} {lo hi : Int} (h : isN v lo hi = true) : ∃ i, v = .int i ∧ lo ≤ i ∧ i ≤ hi := by
  cases v <;> simp [isN] at h
  exact ⟨_, rfl, h⟩
theorem zipAll_iL : ∀ {xs : List PyData} {ls : List Int}, xs.length = ls.length → zipAll xs ls = true → ∃ ys, xs = iL ys
  | [], ls, _, _ => ⟨[], rfl⟩
  | x :: xs, [], h, _ => by simp at h
  | x :: xs, l :: ls, h, q => by
    simp only [zipAll, Bool.and_eq_true] at q
    obtain ⟨i, rfl, _⟩ := isN_int q.1
    obtain ⟨ys, rfl⟩ := zipAll_iL (by simpa using h) q.2
    exact ⟨i :: ys, rfl⟩
theorem rowOk_iL {ls : List Int} {r : PyData} (h : rowOk ls r = true) : ∃ ys, r = .tuple (iL ys) := by
  cases r <;> simp [rowOk] at h
  obtain ⟨ys, rfl⟩ := zipAll_iL h.1 h.2
  exact ⟨ys, rfl⟩
noncomputable abbrev bFits : MS := (mIfS (mNot (mTru (mCall m_is_number (mCons (mVar 2) (mCons (mC (.int 0)) (mCons (m2 vSub (mVar 3) (mC (.int 1))) mNil)))))) (mRet (mC (.bool false))) mPass)
abbrev tFits : Tg := (tgT (tgCons (tgN 2) (tgCons (tgN 3) tgNil)))
theorem go_fits (r0 l0 : Sl) (S : Sto) : ∀ (xs : List PyData) (ls : List Int) (a b : Sl), (zipAll xs ls = true ∧ ∃ a' b', goFor tFits bFits (zipL xs (iL ls)) [r0, l0, a, b] S = .nx [r0, l0, a', b'] S) ∨
    (zipAll xs ls = false ∧ goFor tFits bFits (zipL xs (iL ls)) [r0, l0, a, b] S = .rt (.fr (.bool false)) S)
  | [], ls, a, b => .inl ⟨by cases ls <;> rfl, a, b, by cases ls <;> rfl⟩
  | x :: xs, [], a, b => .inl ⟨rfl, a, b, rfl⟩
  | x :: xs, l :: ls, a, b => by
    have e : goFor tFits bFits (zipL (x :: xs) (iL (l :: ls))) [r0, l0, a, b] S = if isN x 0 (l - 1) then goFor tFits bFits (zipL xs (iL ls)) [r0, l0, .fr x, .fr (.int l)] S else .rt (.fr (.bool false)) S := by
      show goFor tFits bFits (.tuple [x, .int l] :: zipL xs (iL ls)) [r0, l0, a, b] S = _
      rw [goFor_cons]
      cases h : isN x 0 (l - 1) <;> simp [tgT, tgCons, tgN, tgNil, e_is_number, h]
    rw [e]
    cases h : isN x 0 (l - 1) with
    | false => exact .inr ⟨by simp [zipAll, h], by simp⟩
    | true =>
      rcases go_fits r0 l0 S xs ls (.fr x) (.fr (.int l)) with ⟨h1, a', b', h2⟩ | ⟨h1, h2⟩
      · exact .inl ⟨by simp [zipAll, h, h1], a', b', by simpa using h2⟩
      · exact .inr ⟨by simp [zipAll, h, h1], by simpa using h2⟩
theorem e_fits (r : PyData) (ls : List Int) (S : Sto) : m_fits_labels [.fr r, .fr (.tuple (iL ls))] S = .ok (.fr (.bool (rowOk ls r))) S := by
  cases r with
  | tuple xs =>
    by_cases hl : xs.length = ls.length
    · rcases go_fits (.fr (.tuple xs)) (.fr (.tuple (iL ls))) S xs ls .un .un with ⟨h1, a', b', h2⟩ | ⟨h1, h2⟩
      · simp [m_fits_labels, mFn, startE, slA, b_fits_labels, vIsa, isTy, tyName, hl, vZip, h2, rowOk, h1]
      · simp [m_fits_labels, mFn, startE, slA, b_fits_labels, vIsa, isTy, tyName, hl, vZip, h2, rowOk, h1]
    · have hl' : ¬ ((xs.length : Int) = ls.length) := by omega
      simp [m_fits_labels, mFn, startE, slA, b_fits_labels, vIsa, isTy, tyName, hl, hl', rowOk]
  | _ => simp [m_fits_labels, mFn, startE, slA, b_fits_labels, vIsa, isTy, tyName, rowOk]

/-! ### rows, in order -/
def goR (ls : List Int) : Option PyData → List PyData → Bool
  | _, [] => true
  | a, r :: rs => rowOk ls r && (match a with
    | none => true
    | some b => dataLt b r) && goR ls (some r) rs
def rowsB (ls : List Int) (R : PyData) : Bool := match R with
  | .tuple rs => goR ls none rs
  | _ => false
noncomputable abbrev bRows : MS := (mSeq (mIfS (mOr (mNot (mTru (mCall m_fits_labels (mCons (mVar 3) (mCons (mVar 1) mNil))))) (mAnd (m2B dIsNot (mVar 2) (mC .none)) (m2B dLe (mVar 3) (mVar 2)))) (mRet (mC (.bool false))) mPass) (mSet 2 (mVar 3)))
def aD : Option (List Int) → PyData
  | none => .none
  | some ys => .tuple (iL ys)
def aO : Option (List Int) → Option PyData
  | none => none
  | some ys => some (.tuple (iL ys))
theorem go_rows (ls : List Int) (r0 : Sl) (S : Sto) : ∀ (rs : List PyData) (a : Option (List Int)) (b : Sl), (goR ls (aO a) rs = true ∧ ∃ a' b', goFor (tgN 3) bRows rs [r0, .fr (.tuple (iL ls)), .fr (aD a), b] S = .nx [r0, .fr (.tuple (iL ls)), a', b'] S) ∨
    (goR ls (aO a) rs = false ∧ goFor (tgN 3) bRows rs [r0, .fr (.tuple (iL ls)), .fr (aD a), b] S = .rt (.fr (.bool false)) S)
  | [], a, b => .inl ⟨rfl, _, b, rfl⟩
  | r :: rs, a, b => by
    cases h : rowOk ls r with
    | false => exact .inr ⟨by simp [goR, h], by rw [goFor_cons]; simp [tgN, e_fits, h]⟩
    | true =>
      obtain ⟨ys, rfl⟩ := rowOk_iL h
      cases a with
      | none =>
        have e : goFor (tgN 3) bRows (.tuple (iL ys) :: rs) [r0, .fr (.tuple (iL ls)), .fr (aD none), b] S = goFor (tgN 3) bRows rs [r0, .fr (.tuple (iL ls)), .fr (aD (some ys)), .fr (.tuple (iL ys))] S := by
          rw [goFor_cons]; simp [tgN, e_fits, h, aD, dIsNot, notNone]
        rw [e]
        rcases go_rows ls r0 S rs (some ys) (.fr (.tuple (iL ys))) with ⟨h1, a', b', h2⟩ | ⟨h1, h2⟩
        · exact .inl ⟨by simpa [goR, h, aO] using h1, a', b', h2⟩
        · exact .inr ⟨by simpa [goR, h, aO] using h1, h2⟩
      | some zs =>
        cases hlt : dataLt (.tuple (iL zs)) (.tuple (iL ys)) with
        | false => exact .inr ⟨by simp [goR, h, aO, hlt], by rw [goFor_cons]; simp [tgN, e_fits, h, aD, dIsNot, notNone, dLe_iL, hlt]⟩
        | true =>
          have e : goFor (tgN 3) bRows (.tuple (iL ys) :: rs) [r0, .fr (.tuple (iL ls)), .fr (aD (some zs)), b] S = goFor (tgN 3) bRows rs [r0, .fr (.tuple (iL ls)), .fr (aD (some ys)), .fr (.tuple (iL ys))] S := by
            rw [goFor_cons]; simp [tgN, e_fits, h, aD, dIsNot, notNone, dLe_iL, hlt]
          rw [e]
          rcases go_rows ls r0 S rs (some ys) (.fr (.tuple (iL ys))) with ⟨h1, a', b', h2⟩ | ⟨h1, h2⟩
          · exact .inl ⟨by simpa [goR, h, aO, hlt] using h1, a', b', h2⟩
          · exact .inr ⟨by simpa [goR, h, aO, hlt] using h1, h2⟩
theorem e_rowsB (R : PyData) (ls : List Int) (S : Sto) : m_are_rows [.fr R, .fr (.tuple (iL ls))] S = .ok (.fr (.bool (rowsB ls R))) S := by
  cases R with
  | tuple rs =>
    have q := go_rows ls (.fr (.tuple rs)) S rs none .un
    simp only [aD] at q
    rcases q with ⟨h1, a', b', h2⟩ | ⟨h1, h2⟩
    · simp [m_are_rows, mFn, startE, slA, b_are_rows, vIsa, isTy, tyName, vItems, h2, rowsB, show goR ls none rs = true from h1]
    · simp [m_are_rows, mFn, startE, slA, b_are_rows, vIsa, isTy, tyName, vItems, h2, rowsB, show goR ls none rs = false from h1]
  | _ => simp [m_are_rows, mFn, startE, slA, b_are_rows, vIsa, isTy, tyName, rowsB]
end K01
end

section
set_option Elab.async false
set_option linter.all false
set_option maxRecDepth 100000
set_option maxHeartbeats 1000000
namespace K01
open PySem PySem.Spec PyProof.Rows L2 TL PySem.W

/-! ### the numbers of labels -/
def prodD : List PyData → Int
  | .int i :: r => i * prodD r
  | _ => 1
def boundsB (l : List PyData) : Bool := l.all (fun v => isN v 1 60) && decide (prodD l ≤ 4000)
theorem small60 {i : Int} (h1 : 1 ≤ i) (h2 : i ≤ 60) : small i = true := by
  exact decide_eq_true (by omega)
noncomputable abbrev bBnd : MS := (mSeq (mIfS (mNot (mTru (mCall m_is_number (mCons (mVar 2) (mCons (mC (.int 1)) (mCons (mC (.int 60)) mNil)))))) (mRet (mC (.bool false))) mPass) (mSet 1 (m2 vMul (mVar 1) (mVar 2))))
theorem go_bnd (r0 : Sl) (S : Sto) : ∀ (l : List PyData) (p : Int) (b : Sl), (l.all (fun v => isN v 1 60) = true ∧ ∃ b', goFor (tgN 2) bBnd l [r0, .fr (.int p), b] S = .nx [r0, .fr (.int (p * prodD l)), b'] S) ∨
    (l.all (fun v => isN v 1 60) = false ∧ goFor (tgN 2) bBnd l [r0, .fr (.int p), b] S = .rt (.fr (.bool false)) S)
  | [], p, b => .inl ⟨rfl, b, by simp [prodD]⟩
  | v :: l, p, b => by
    cases h : isN v 1 60 with
    | false => exact .inr ⟨by simp [h], by rw [goFor_cons]; simp [tgN, e_is_number, h]⟩
    | true =>
      obtain ⟨i, rfl, h1, h2⟩ := isN_int h
      have e : goFor (tgN 2) bBnd (.int i :: l) [r0, .fr (.int p), b] S = goFor (tgN 2) bBnd l [r0, .fr (.int (p * i)), .fr (.int i)] S := by
        rw [goFor_cons]; simp [tgN, e_is_number, h, vMul_int, small60 h1 h2]
      rw [e]
      rcases go_bnd r0 S l (p * i) (.fr (.int i)) with ⟨q1, b', q2⟩ | ⟨q1, q2⟩
      · refine .inl ⟨by simpa [h] using q1, b', ?_⟩
        rw [q2]
        simp only [prodD, Int.mul_assoc]
      · exact .inr ⟨by simpa [h] using q1, q2⟩
theorem e_bounds (l : List PyData) (S : Sto) : m_fits_bounds [.fr (.tuple l)] S = .ok (.fr (.bool (boundsB l))) S := by
  rcases go_bnd (.fr (.tuple l)) S l 1 .un with ⟨h1, b', h2⟩ | ⟨h1, h2⟩
  · have h1' : l.all (fun v => isN v 1 60) = true := h1
    simp [m_fits_bounds, mFn, startE, slA, b_fits_bounds, vIsa2, isTy, tyName, vItems, h2, boundsB, h1', b2]
  · have h1' : l.all (fun v => isN v 1 60) = false := h1
    simp [m_fits_bounds, mFn, startE, slA, b_fits_bounds, vIsa2, isTy, tyName, vItems, h2, boundsB, h1']
theorem all_iL : ∀ {l : List PyData}, l.all (fun v => isN v 1 60) = true → ∃ ls, l = iL ls ∧ ∀ i ∈ ls, 1 ≤ i ∧ i ≤ 60
  | [], _ => ⟨[], rfl, by simp⟩
  | v :: l, h => by
    simp only [List.all_cons, Bool.and_eq_true] at h
    obtain ⟨i, rfl, h1⟩ := isN_int h.1
    obtain ⟨ls, rfl, h2⟩ := all_iL h.2
    exact ⟨i :: ls, rfl, fun j hj => (List.mem_cons.mp hj).elim (fun e => e ▸ h1) (h2 j)⟩

/-! ### a task -/
def sideB (ls : List Int) (s : PyData) : Bool := match s with
  | .tuple rs => decide (1 ≤ rs.length) && decide (rs.length ≤ 4) && rs.all (rowsB ls)
  | _ => false
def iOf : PyData → Int
  | .int i => i
  | _ => 0
def rightB (v : PyData) : Bool := match v with
  | .tuple [.str h, n, .tuple l, w, b] => decide (h = "task") && isN n 2 4 && decide ((l.length : Int) = iOf n) && boundsB l && sideB (l.map iOf) w && sideB (l.map iOf) b
  | _ => false
/-- what may be asked: a head that == can be asked of -/
structure Fine (v : PyData) : Prop where
  rep : okRepr v = true
  hd : ∀ a b c d e, v = .tuple [a, b, c, d, e] → a.plain = true ∧ a.depth ≤ 60
theorem map_iOf : ∀ ls : List Int, (iL ls).map iOf = ls
  | [] => rfl
  | i :: ls => by show i :: (iL ls).map iOf = _; rw [map_iOf ls]
noncomputable abbrev bIn : MS := (mIfS (mNot (mTru (mCall m_are_rows (mCons (mVar 3) (mCons (mVar 1) mNil))))) (mRaise "BadTask") mPass)
noncomputable abbrev bOut : MS := (mSeq (mIfS (mOr (mNot (mTru (m1 (vIsa "tuple") (mVar 2)))) (mNot (mCh dLe dLe (mC (.int 1)) (mL vLen (mCons (mVar 2) mNil)) (mC (.int 4))))) (mRaise "BadTask") mPass) (mFor (mItems (mVar 2)) (tgN 3) bIn))
abbrev xBad : Xc := ⟨"BadTask", none⟩
def IsX (r : Rs) (S : Sto) : Prop := ∃ env, r = .exc xBad env S
theorem go_in (ls : List Int) (r0 r2 : Sl) (S : Sto) : ∀ (rs : List PyData) (b : Sl), (rs.all (rowsB ls) = true ∧ ∃ b', goFor (tgN 3) bIn rs [r0, .fr (.tuple (iL ls)), r2, b] S = .nx [r0, .fr (.tuple (iL ls)), r2, b'] S) ∨
    (rs.all (rowsB ls) = false ∧ IsX (goFor (tgN 3) bIn rs [r0, .fr (.tuple (iL ls)), r2, b] S) S)
  | [], b => .inl ⟨rfl, b, rfl⟩
  | r :: rs, b => by
    cases h : rowsB ls r with
    | false => exact .inr ⟨by simp [h], ⟨_, by rw [goFor_cons]; simp [tgN, e_rowsB, h]; rfl⟩⟩
    | true =>
      have e : goFor (tgN 3) bIn (r :: rs) [r0, .fr (.tuple (iL ls)), r2, b] S = goFor (tgN 3) bIn rs [r0, .fr (.tuple (iL ls)), r2, .fr r] S := by
        rw [goFor_cons]; simp [tgN, e_rowsB, h]
      rw [e]
      rcases go_in ls r0 r2 S rs (.fr r) with ⟨q1, b', q2⟩ | ⟨q1, q2⟩
      · exact .inl ⟨by simpa [h] using q1, b', q2⟩
      · exact .inr ⟨by simpa [h] using q1, q2⟩
theorem one_out (ls : List Int) (r0 b : Sl) (s : PyData) (S : Sto) : (sideB ls s = true ∧ ∃ b', bOut [r0, .fr (.tuple (iL ls)), .fr s, b] S = .nx [r0, .fr (.tuple (iL ls)), .fr s, b'] S) ∨
    (sideB ls s = false ∧ IsX (bOut [r0, .fr (.tuple (iL ls)), .fr s, b] S) S) := by
  cases s with
  | tuple rs =>
    by_cases hl : 1 ≤ rs.length ∧ rs.length ≤ 4
    · have h1 : (1 : Int) ≤ rs.length := by omega
      have h2 : (rs.length : Int) ≤ 4 := by omega
      rcases go_in ls r0 (.fr (.tuple rs)) S rs b with ⟨q1, b', q2⟩ | ⟨q1, en, q2⟩
      · exact .inl ⟨by simp only [sideB, hl.1, hl.2, decide_true, Bool.true_and]; exact q1, b', by simp [vIsa, isTy, tyName, mCh, h1, h2, vItems, q2]⟩
      · exact .inr ⟨by simp only [sideB, hl.1, hl.2, decide_true, Bool.true_and]; exact q1, en, by simp [vIsa, isTy, tyName, mCh, h1, h2, vItems, q2]⟩
    · refine .inr ⟨by simp only [sideB]; rw [show (decide (1 ≤ rs.length) && decide (rs.length ≤ 4)) = false by simpa using hl]; rfl, [r0, .fr (.tuple (iL ls)), .fr (.tuple rs), b], ?_⟩
      by_cases h1 : (1 : Int) ≤ rs.length
      · have h2 : ¬ (rs.length : Int) ≤ 4 := by omega
        simp [vIsa, isTy, tyName, mCh, h1, h2]
      · simp [vIsa, isTy, tyName, mCh, h1]
  | _ => exact .inr ⟨rfl, _, by simp [vIsa, isTy, tyName]; rfl⟩
def isTask (h : PyData) : Bool := match h with
  | .str x => decide (x = "task")
  | _ => false
theorem dNe_task {h : PyData} (p : h.plain = true) (d : h.depth ≤ 60) : dNe h (.str "task") = some (!isTask h) := by
  cases h with
  | str x => simp [isTask]
  | _ =>
    unfold dNe dEq
    rw [p]
    simp [shallow, PyData.depth, PyData.eqv, isTask, show (PyData.str "task").plain = true from rfl]
theorem len5 {xs : List PyData} (h : xs.length = 5) : ∃ a b c d e, xs = [a, b, c, d, e] := by
  match xs, h with
  | [a, b, c, d, e], _ => exact ⟨a, b, c, d, e, rfl⟩
theorem right5 {h n l w b : PyData} : rightB (.tuple [h, n, l, w, b]) = (isTask h && isN n 2 4 && (match l with
    | .tuple l => decide ((l.length : Int) = iOf n) && boundsB l && sideB (l.map iOf) w && sideB (l.map iOf) b
    | _ => false)) := by
  cases h <;> cases l <;> simp [rightB, isTask, Bool.and_assoc]
theorem e_check (v : PyData) (hf : Fine v) (S : Sto) : (rightB v = true ∧ m_check_task [.fr v] S = .ok (.fr .none) S) ∨ (rightB v = false ∧ m_check_task [.fr v] S = .exc xBad S) := by
  cases v with
  | tuple xs =>
    by_cases hl : xs.length = 5
    · obtain ⟨h, n, l, w, b, rfl⟩ := len5 hl
      obtain ⟨hp, hdp⟩ := hf.hd h n l w b rfl
      have a0 : L2.atI [h, n, l, w, b] 0 = some h := rfl
      have a1 : L2.atI [h, n, l, w, b] 1 = some n := rfl
      have a2 : L2.atI [h, n, l, w, b] 2 = some l := rfl
      rw [right5]
      cases ht : isTask h with
      | false => exact .inr ⟨by simp, by simp [m_check_task, mFn, startE, slA, b_check_task, vIsa, isTy, tyName, vIx_tup a0, dNe_task hp hdp, ht]⟩
      | true =>
        cases hn : isN n 2 4 with
        | false => exact .inr ⟨by simp, by simp [m_check_task, mFn, startE, slA, b_check_task, vIsa, isTy, tyName, vIx_tup a0, vIx_tup a1, dNe_task hp hdp, ht, e_is_number, hn]⟩
        | true =>
          obtain ⟨k, rfl, k1, k2⟩ := isN_int hn
          cases l with
          | tuple l =>
            by_cases hk : (l.length : Int) = k
            · cases hb : boundsB l with
              | false => exact .inr ⟨by simp [iOf, hk, hb], by simp [m_check_task, mFn, startE, slA, b_check_task, vIsa, isTy, tyName, vIx_tup a0, vIx_tup a1, vIx_tup a2, dNe_task hp hdp, ht, e_is_number, hn, hk, e_bounds, hb]⟩
              | true =>
                have hall : l.all (fun v => isN v 1 60) = true := by
                  simp only [boundsB, Bool.and_eq_true] at hb; exact hb.1
                obtain ⟨ls, rfl, hls⟩ := all_iL hall
                have sl : vSl (.fr (.tuple [h, .int k, .tuple (iL ls), w, b])) (some 3) none = some (.fr (.tuple [w, b])) := rfl
                simp only [map_iOf]
                have run : m_check_task [.fr (.tuple [h, .int k, .tuple (iL ls), w, b])] S = (match goFor (tgN 2) bOut [w, b] [.fr (.tuple [h, .int k, .tuple (iL ls), w, b]), .fr (.tuple (iL ls)), .un, .un] S with
                    | .rt v S' => .ok v S'
                    | .nx _ S' => .ok (.fr .none) S'
                    | .exc e _ S' => .exc e S'
                    | _ => .stuck) := by
                  simp [m_check_task, mFn, startE, slA, b_check_task, vIsa, isTy, tyName, vIx_tup a0, vIx_tup a1, vIx_tup a2, dNe_task hp hdp, ht, e_is_number, hn, show ((ls.length : Int) = k) by simpa using hk, e_bounds, hb, mSl, mPart, sl, vItems]
                  all_goals rfl
                rw [run, goFor_cons]
                simp only [tgN, List.length_cons, List.length_nil, List.set]
                rcases one_out ls (.fr (.tuple [h, .int k, .tuple (iL ls), w, b])) .un w S with ⟨q1, b1, q2⟩ | ⟨q1, en, q2⟩
                · rcases one_out ls (.fr (.tuple [h, .int k, .tuple (iL ls), w, b])) b1 b S with ⟨p1, b2, p2⟩ | ⟨p1, en, p2⟩
                  · refine .inl ⟨by simp [iOf, hk, hb, q1, p1, show ((ls.length : Int) = k) by simpa using hk], ?_⟩
                    rw [show (if 2 < 0 + 1 + 1 + 1 + 1 then some [Sl.fr (.tuple [h, .int k, .tuple (iL ls), w, b]), .fr (.tuple (iL ls)), .fr w, .un] else none) = some [Sl.fr (.tuple [h, .int k, .tuple (iL ls), w, b]), .fr (.tuple (iL ls)), .fr w, .un] from rfl]
                    dsimp only
                    rw [q2, loop_nx, goFor_cons]
                    simp only [tgN, List.length_cons, List.length_nil, List.set]
                    rw [show (if 2 < 0 + 1 + 1 + 1 + 1 then some [Sl.fr (.tuple [h, .int k, .tuple (iL ls), w, b]), .fr (.tuple (iL ls)), .fr b, b1] else none) = some [Sl.fr (.tuple [h, .int k, .tuple (iL ls), w, b]), .fr (.tuple (iL ls)), .fr b, b1] from rfl]
                    dsimp only
                    rw [p2]; rfl
                  · refine .inr ⟨by simp [q1, p1], ?_⟩
                    rw [show (if 2 < 0 + 1 + 1 + 1 + 1 then some [Sl.fr (.tuple [h, .int k, .tuple (iL ls), w, b]), .fr (.tuple (iL ls)), .fr w, .un] else none) = some [Sl.fr (.tuple [h, .int k, .tuple (iL ls), w, b]), .fr (.tuple (iL ls)), .fr w, .un] from rfl]
                    dsimp only
                    rw [q2, loop_nx, goFor_cons]
                    simp only [tgN, List.length_cons, List.length_nil, List.set]
                    rw [show (if 2 < 0 + 1 + 1 + 1 + 1 then some [Sl.fr (.tuple [h, .int k, .tuple (iL ls), w, b]), .fr (.tuple (iL ls)), .fr b, b1] else none) = some [Sl.fr (.tuple [h, .int k, .tuple (iL ls), w, b]), .fr (.tuple (iL ls)), .fr b, b1] from rfl]
                    dsimp only
                    rw [p2]; rfl
                · refine .inr ⟨by simp [q1], ?_⟩
                  rw [show (if 2 < 0 + 1 + 1 + 1 + 1 then some [Sl.fr (.tuple [h, .int k, .tuple (iL ls), w, b]), .fr (.tuple (iL ls)), .fr w, .un] else none) = some [Sl.fr (.tuple [h, .int k, .tuple (iL ls), w, b]), .fr (.tuple (iL ls)), .fr w, .un] from rfl]
                  dsimp only
                  rw [q2]; rfl
            · exact .inr ⟨by simp [iOf, hk], by simp [m_check_task, mFn, startE, slA, b_check_task, vIsa, isTy, tyName, vIx_tup a0, vIx_tup a1, vIx_tup a2, dNe_task hp hdp, ht, e_is_number, hn, hk]⟩
          | _ => exact .inr ⟨by simp, by simp [m_check_task, mFn, startE, slA, b_check_task, vIsa, isTy, tyName, vIx_tup a0, vIx_tup a1, vIx_tup a2, dNe_task hp hdp, ht, e_is_number, hn]⟩
    · have hl' : ¬ ((xs.length : Int) = 5) := by omega
      refine .inr ⟨?_, by simp [m_check_task, mFn, startE, slA, b_check_task, vIsa, isTy, tyName, hl']⟩
      cases hr : rightB (.tuple xs) with
      | false => rfl
      | true =>
        unfold rightB at hr
        split at hr
        · rename_i e; cases e; exact absurd rfl hl
        · cases hr
  | _ => exact .inr ⟨rfl, by simp [m_check_task, mFn, startE, slA, b_check_task, vIsa, isTy, tyName]⟩
end K01
end

section
set_option Elab.async false
set_option linter.all false
set_option maxRecDepth 100000
set_option maxHeartbeats 1000000
namespace K01
open PySem PySem.Spec PyProof.Rows L2 TL PySem.W

def isI (v : PyData) : Bool := match v with
  | .int _ => true
  | _ => false
theorem e_integer (v : PyData) (S : Sto) : m__law_integer [.fr v] S = .ok (.fr (.bool (isI v))) S := by
  cases v <;> simp [m__law_integer, mFn, startE, slA, b__law_integer, mAndV, mNotV, vIsa, isTy, tyName, isI]
noncomputable abbrev bAt : MS := (mIfS (mOr (mNot (mTru (mCall m__law_integer (mCons (m2 vIx (mVar 3) (mVar 4)) mNil)))) (mOr (m2B dLt (m2 vIx (mVar 3) (mVar 4)) (mC (.int 0))) (m2B dGe (m2 vIx (mVar 3) (mVar 4)) (m2 vIx (mVar 1) (mVar 4))))) (mRet (mC (.bool false))) mPass)
theorem go_at (r0 r2 : Sl) (xs : List PyData) (ls : List Int) (hl : xs.length = ls.length) (S : Sto) : ∀ (m i : Nat) (b : Sl), i + m = xs.length →
    (zipAll (xs.drop i) (ls.drop i) = true ∧ ∃ b', goFor (tgN 4) bAt ((List.range' i m).map fun j => PyData.int (j : Nat)) [r0, .fr (.tuple (iL ls)), r2, .fr (.tuple xs), b] S = .nx [r0, .fr (.tuple (iL ls)), r2, .fr (.tuple xs), b'] S) ∨
    (zipAll (xs.drop i) (ls.drop i) = false ∧ goFor (tgN 4) bAt ((List.range' i m).map fun j => PyData.int (j : Nat)) [r0, .fr (.tuple (iL ls)), r2, .fr (.tuple xs), b] S = .rt (.fr (.bool false)) S)
  | 0, i, b, h => .inl ⟨by rw [List.drop_eq_nil_of_le (by omega)]; rfl, b, rfl⟩
  | m + 1, i, b, h => by
    have hi : i < xs.length := by omega
    have hi2 : i < ls.length := by omega
    have a1 : L2.atI xs (i : Nat) = some xs[i] := atI_at hi
    have a2 : L2.atI (iL ls) (i : Nat) = some (.int ls[i]) := iL_at hi2
    rw [List.drop_eq_getElem_cons hi, List.drop_eq_getElem_cons hi2, List.range'_succ, List.map_cons, goFor_cons]
    simp only [zipAll]
    cases hx : xs[i] with
    | int x =>
      rw [hx] at a1
      by_cases h0 : x < 0
      · exact .inr ⟨by simp [isN]; intro h; omega, by simp [tgN, vIx_tup a1, vIx_tup a2, e_integer, isI, h0]⟩
      · by_cases h1 : ls[i] ≤ x
        · exact .inr ⟨by simp [isN]; intro h h'; omega, by simp [tgN, vIx_tup a1, vIx_tup a2, e_integer, isI, h0, h1]⟩
        · have e : isN (.int x) 0 (ls[i] - 1) = true := by simp [isN]; omega
          rw [e]
          rcases go_at r0 r2 xs ls hl S m (i + 1) (.fr (.int (i : Nat))) (by omega) with ⟨q1, b', q2⟩ | ⟨q1, q2⟩
          · refine .inl ⟨by simpa using q1, b', ?_⟩
            simp only [tgN, List.length_cons, List.length_nil, List.set]
            simpa [vIx_tup a1, vIx_tup a2, e_integer, isI, h0, h1] using q2
          · refine .inr ⟨by simpa using q1, ?_⟩
            simp only [tgN, List.length_cons, List.length_nil, List.set]
            simpa [vIx_tup a1, vIx_tup a2, e_integer, isI, h0, h1] using q2
    | _ =>
      rw [hx] at a1
      exact .inr ⟨rfl, by simp [tgN, vIx_tup a1, vIx_tup a2, e_integer, isI]⟩
theorem rngL0 (n : Nat) : rngL 0 (n : Int) = (List.range' 0 n).map fun j => PyData.int (j : Nat) := by
  unfold rngL
  rw [← List.range_eq_range']
  simp
noncomputable abbrev bRR : MS := (mSeq (mIfS (mOr (mNot (mTru (m1 (vIsa "tuple") (mVar 3)))) (m2B dNe (mL vLen (mCons (mVar 3) mNil)) (mL vLen (mCons (mVar 1) mNil)))) (mRet (mC (.bool false))) mPass) (mSeq (mFor (mR1 (mL vLen (mCons (mVar 3) mNil))) (tgN 4) bAt) (mSeq (mIfS (mAnd (m2B dIsNot (mVar 2) (mC .none)) (mNot (m2B dLt (mVar 2) (mVar 3)))) (mRet (mC (.bool false))) mPass) (mSet 2 (mVar 3)))))
/-- one row -/
theorem one_rr (r0 b : Sl) (ls : List Int) (hk : okR (ls.length : Int) = true) (a : Option (List Int)) (r : PyData) (S : Sto) :
    (∃ ys, r = .tuple (iL ys) ∧ rowOk ls r = true ∧ (match aO a with
      | none => true
      | some b => dataLt b r) = true ∧ ∃ b', bRR [r0, .fr (.tuple (iL ls)), .fr (aD a), .fr r, b] S = .nx [r0, .fr (.tuple (iL ls)), .fr (aD (some ys)), .fr r, b'] S) ∨
    ((rowOk ls r && (match aO a with
      | none => true
      | some b => dataLt b r)) = false ∧ bRR [r0, .fr (.tuple (iL ls)), .fr (aD a), .fr r, b] S = .rt (.fr (.bool false)) S) := by
  cases r with
  | tuple xs =>
    by_cases hl : xs.length = ls.length
    · rcases go_at r0 (.fr (aD a)) xs ls hl S xs.length 0 b (by omega) with ⟨q1, b', q2⟩ | ⟨q1, q2⟩
      · simp only [List.drop_zero] at q1
        have hr : rowOk ls (.tuple xs) = true := by simp [rowOk, hl, q1]
        obtain ⟨ys, e⟩ := rowOk_iL hr
        cases e
        rw [hl] at q2
        have hl2 : ys.length = ls.length := by simpa using hl
        cases a with
        | none =>
          simp only [aD] at q2
          refine .inl ⟨ys, rfl, hr, rfl, b', ?_⟩
          simp [vIsa, isTy, tyName, hl2, vRng, hk, rngL0, q2, aD, dIsNot, notNone]
        | some zs =>
          simp only [aD] at q2
          cases hlt : dataLt (.tuple (iL zs)) (.tuple (iL ys)) with
          | true =>
            refine .inl ⟨ys, rfl, hr, hlt, b', ?_⟩
            simp [vIsa, isTy, tyName, hl2, vRng, hk, rngL0, q2, aD, dIsNot, notNone, dLt_iL, hlt]
          | false =>
            refine .inr ⟨by simp [aO, hlt], ?_⟩
            simp [vIsa, isTy, tyName, hl2, vRng, hk, rngL0, q2, aD, dIsNot, notNone, dLt_iL, hlt]
      · simp only [List.drop_zero] at q1
        have hk' : okR (xs.length : Int) = true := by rw [hl]; exact hk
        have he : ((xs.length : Int) = ls.length) := by rw [hl]
        refine .inr ⟨by simp [rowOk, q1], ?_⟩
        have s1 : (mIfS (mOr (mNot (mTru (m1 (vIsa "tuple") (mVar 3)))) (m2B dNe (mL vLen (mCons (mVar 3) mNil)) (mL vLen (mCons (mVar 1) mNil)))) (mRet (mC (.bool false))) mPass) [r0, .fr (.tuple (iL ls)), .fr (aD a), .fr (.tuple xs), b] S = .nx [r0, .fr (.tuple (iL ls)), .fr (aD a), .fr (.tuple xs), b] S := by
          simp [vIsa, isTy, tyName, he]
        have s2 : mFor (mR1 (mL vLen (mCons (mVar 3) mNil))) (tgN 4) bAt [r0, .fr (.tuple (iL ls)), .fr (aD a), .fr (.tuple xs), b] S = .rt (.fr (.bool false)) S := by
          rw [mFor_at]
          simp only [mR1_at, mRng_at, mCons_at, mL_at, mVar_at, List.getElem?_cons_succ, List.getElem?_cons_zero, bind_ok, mNil_at, optL_at, vLen_tup, vRng, dat_fr, hk', if_true, rngL0, toS_ok, q2]
        exact (seq_nx s1).trans (seq_rt s2)
    · have hl' : ¬ ((xs.length : Int) = ls.length) := by omega
      exact .inr ⟨by simp [rowOk, hl], by simp [vIsa, isTy, tyName, hl']⟩
  | _ => exact .inr ⟨rfl, by simp [vIsa, isTy, tyName]⟩
theorem goR_cons (ls : List Int) (a : Option PyData) (r : PyData) (rs : List PyData) : goR ls a (r :: rs) = ((rowOk ls r && (match a with
    | none => true
    | some b => dataLt b r)) && goR ls (some r) rs) := by cases a <;> rfl
theorem go_rr (ls : List Int) (hk : okR (ls.length : Int) = true) (r0 : Sl) (S : Sto) : ∀ (rs : List PyData) (a : Option (List Int)) (b c : Sl), (goR ls (aO a) rs = true ∧ ∃ a' b' c', goFor (tgN 3) bRR rs [r0, .fr (.tuple (iL ls)), .fr (aD a), b, c] S = .nx [r0, .fr (.tuple (iL ls)), a', b', c'] S) ∨
    (goR ls (aO a) rs = false ∧ goFor (tgN 3) bRR rs [r0, .fr (.tuple (iL ls)), .fr (aD a), b, c] S = .rt (.fr (.bool false)) S)
  | [], a, b, c => .inl ⟨rfl, _, b, c, rfl⟩
  | r :: rs, a, b, c => by
    have e : goFor (tgN 3) bRR (r :: rs) [r0, .fr (.tuple (iL ls)), .fr (aD a), b, c] S = (bRR [r0, .fr (.tuple (iL ls)), .fr (aD a), .fr r, c] S).loop (goFor (tgN 3) bRR rs) := rfl
    rw [e]
    rcases one_rr r0 c ls hk a r S with ⟨ys, rfl, h1, h2, b', h3⟩ | ⟨h1, h2⟩
    · rw [h3, loop_nx]
      rcases go_rr ls hk r0 S rs (some ys) (.fr (.tuple (iL ys))) b' with ⟨q1, a', b2, c2, q2⟩ | ⟨q1, q2⟩
      · exact .inl ⟨by rw [goR_cons, h1, h2]; exact q1, a', b2, c2, q2⟩
      · exact .inr ⟨by rw [goR_cons, h1, h2]; exact q1, q2⟩
    · rw [h2]
      exact .inr ⟨by rw [goR_cons, h1]; rfl, rfl⟩
theorem e_rr (R : PyData) (ls : List Int) (hk : okR (ls.length : Int) = true) (S : Sto) : m__law_rows_right [.fr R, .fr (.tuple (iL ls))] S = .ok (.fr (.bool (rowsB ls R))) S := by
  cases R with
  | tuple rs =>
    have q := go_rr ls hk (.fr (.tuple rs)) S rs none .un .un
    simp only [aD] at q
    rcases q with ⟨h1, a', b', c', h2⟩ | ⟨h1, h2⟩
    · simp [m__law_rows_right, mFn, startE, slA, b__law_rows_right, vIsa, isTy, tyName, vItemsT, h2, rowsB, show goR ls none rs = true from h1]
    · simp [m__law_rows_right, mFn, startE, slA, b__law_rows_right, vIsa, isTy, tyName, vItemsT, h2, rowsB, show goR ls none rs = false from h1]
  | _ => simp [m__law_rows_right, mFn, startE, slA, b__law_rows_right, vIsa, isTy, tyName, rowsB]

/-! ### the law's own look at a task -/
noncomputable abbrev bBn2 : MS := (mSeq (mIfS (mOr (mNot (mTru (mCall m__law_integer (mCons (mVar 2) mNil)))) (mOr (m2B dLt (mVar 2) (mC (.int 1))) (m2B dGt (mVar 2) (mC (.int 60))))) (mRet (mC (.bool false))) mPass) (mSet 1 (m2 vMul (mVar 1) (mVar 2))))
theorem go_bn2 (r0 r3 r4 : Sl) (S : Sto) : ∀ (l : List PyData) (p : Int) (b : Sl), (l.all (fun v => isN v 1 60) = true ∧ ∃ b', goFor (tgN 2) bBn2 l [r0, .fr (.int p), b, r3, r4] S = .nx [r0, .fr (.int (p * prodD l)), b', r3, r4] S) ∨
    (l.all (fun v => isN v 1 60) = false ∧ goFor (tgN 2) bBn2 l [r0, .fr (.int p), b, r3, r4] S = .rt (.fr (.bool false)) S)
  | [], p, b => .inl ⟨rfl, b, by simp [prodD]⟩
  | v :: l, p, b => by
    cases v with
    | int i =>
      by_cases h1 : i < 1
      · exact .inr ⟨by simp [isN]; intro h; omega, by rw [goFor_cons]; simp [tgN, e_integer, isI, h1]⟩
      · by_cases h2 : 60 < i
        · exact .inr ⟨by simp [isN]; intro h h'; omega, by rw [goFor_cons]; simp [tgN, e_integer, isI, h1, h2]⟩
        · have hN : isN (.int i) 1 60 = true := by simp [isN]; omega
          have e : goFor (tgN 2) bBn2 (.int i :: l) [r0, .fr (.int p), b, r3, r4] S = goFor (tgN 2) bBn2 l [r0, .fr (.int (p * i)), .fr (.int i), r3, r4] S := by
            rw [goFor_cons]; simp [tgN, e_integer, isI, h1, h2, vMul_int, small60 (show 1 ≤ i by omega) (show i ≤ 60 by omega)]
          rw [e]
          rcases go_bn2 r0 r3 r4 S l (p * i) (.fr (.int i)) with ⟨q1, b', q2⟩ | ⟨q1, q2⟩
          · refine .inl ⟨by simpa [hN] using q1, b', ?_⟩
            rw [q2]
            simp only [prodD, Int.mul_assoc]
          · exact .inr ⟨by simpa [hN] using q1, q2⟩
    | _ => exact .inr ⟨rfl, by rw [goFor_cons]; simp [tgN, e_integer, isI]⟩
noncomputable abbrev bSd : MS := (mSeq (mIfS (mOr (mNot (mTru (m1 (vIsa "tuple") (mVar 3)))) (mOr (m2B dLt (mL vLen (mCons (mVar 3) mNil)) (mC (.int 1))) (m2B dGt (mL vLen (mCons (mVar 3) mNil)) (mC (.int 4))))) (mRet (mC (.bool false))) mPass) (mFor (mItemsT (mVar 3)) (tgN 4) (mIfS (mNot (mTru (mCall m__law_rows_right (mCons (mVar 4) (mCons (m2 vIx (mVar 0) (mC (.int 2))) mNil))))) (mRet (mC (.bool false))) mPass)))
noncomputable abbrev bSi : MS := (mIfS (mNot (mTru (mCall m__law_rows_right (mCons (mVar 4) (mCons (m2 vIx (mVar 0) (mC (.int 2))) mNil))))) (mRet (mC (.bool false))) mPass)
theorem go_si (xs : List PyData) (ls : List Int) (a2 : L2.atI xs 2 = some (.tuple (iL ls))) (hk : okR (ls.length : Int) = true) (r1 r2 r3 : Sl) (S : Sto) : ∀ (rs : List PyData) (b : Sl), (rs.all (rowsB ls) = true ∧ ∃ b', goFor (tgN 4) bSi rs [.fr (.tuple xs), r1, r2, r3, b] S = .nx [.fr (.tuple xs), r1, r2, r3, b'] S) ∨
    (rs.all (rowsB ls) = false ∧ goFor (tgN 4) bSi rs [.fr (.tuple xs), r1, r2, r3, b] S = .rt (.fr (.bool false)) S)
  | [], b => .inl ⟨rfl, b, rfl⟩
  | r :: rs, b => by
    cases h : rowsB ls r with
    | false => exact .inr ⟨by simp [h], by rw [goFor_cons]; simp [tgN, vIx_tup a2, e_rr _ _ hk, h]⟩
    | true =>
      have e : goFor (tgN 4) bSi (r :: rs) [.fr (.tuple xs), r1, r2, r3, b] S = goFor (tgN 4) bSi rs [.fr (.tuple xs), r1, r2, r3, .fr r] S := by
        rw [goFor_cons]; simp [tgN, vIx_tup a2, e_rr _ _ hk, h]
      rw [e]
      rcases go_si xs ls a2 hk r1 r2 r3 S rs (.fr r) with ⟨q1, b', q2⟩ | ⟨q1, q2⟩
      · exact .inl ⟨by simpa [h] using q1, b', q2⟩
      · exact .inr ⟨by simpa [h] using q1, q2⟩
theorem one_sd (xs : List PyData) (ls : List Int) (a2 : L2.atI xs 2 = some (.tuple (iL ls))) (hk : okR (ls.length : Int) = true) (r1 r2 b : Sl) (s : PyData) (S : Sto) : (sideB ls s = true ∧ ∃ b', bSd [.fr (.tuple xs), r1, r2, .fr s, b] S = .nx [.fr (.tuple xs), r1, r2, .fr s, b'] S) ∨
    (sideB ls s = false ∧ bSd [.fr (.tuple xs), r1, r2, .fr s, b] S = .rt (.fr (.bool false)) S) := by
  cases s with
  | tuple rs =>
    by_cases hl : 1 ≤ rs.length ∧ rs.length ≤ 4
    · have h1 : ¬ ((rs.length : Int) < 1) := by omega
      have h2 : ¬ (4 < (rs.length : Int)) := by omega
      rcases go_si xs ls a2 hk r1 r2 (.fr (.tuple rs)) S rs b with ⟨q1, b', q2⟩ | ⟨q1, q2⟩
      · exact .inl ⟨by simp only [sideB, hl.1, hl.2, decide_true, Bool.true_and]; exact q1, b', by simp [vIsa, isTy, tyName, h1, h2, vItemsT, q2]⟩
      · exact .inr ⟨by simp only [sideB, hl.1, hl.2, decide_true, Bool.true_and]; exact q1, by simp [vIsa, isTy, tyName, h1, h2, vItemsT, q2]⟩
    · refine .inr ⟨by simp only [sideB]; rw [show (decide (1 ≤ rs.length) && decide (rs.length ≤ 4)) = false by simpa using hl]; rfl, ?_⟩
      by_cases h1 : ((rs.length : Int) < 1)
      · simp [vIsa, isTy, tyName, h1]
      · have h2 : (4 < (rs.length : Int)) := by omega
        simp [vIsa, isTy, tyName, h1, h2]
  | _ => exact .inr ⟨rfl, by simp [vIsa, isTy, tyName]⟩
theorem e_right (v : PyData) (hf : Fine v) (S : Sto) : m__law_right [.fr v] S = .ok (.fr (.bool (rightB v))) S := by
  cases v with
  | tuple xs =>
    by_cases hl : xs.length = 5
    · obtain ⟨h, n, l, w, b, rfl⟩ := len5 hl
      obtain ⟨hp, hdp⟩ := hf.hd h n l w b rfl
      have a0 : L2.atI [h, n, l, w, b] 0 = some h := rfl
      have a1 : L2.atI [h, n, l, w, b] 1 = some n := rfl
      have a2 : L2.atI [h, n, l, w, b] 2 = some l := rfl
      rw [right5]
      cases h with
      | str x =>
        by_cases ht : x = "task"
        · subst ht
          cases n with
          | int k =>
            by_cases k1 : k < 2
            · have e : isN (.int k) 2 4 = false := by simp [isN]; intro h; omega
              simp [m__law_right, mFn, startE, slA, b__law_right, vIsa, isTy, tyName, vIx_tup a0, vIx_tup a1, e_integer, isI, k1, isTask, e]
            · by_cases k2 : 4 < k
              · have e : isN (.int k) 2 4 = false := by simp [isN]; intro h; omega
                simp [m__law_right, mFn, startE, slA, b__law_right, vIsa, isTy, tyName, vIx_tup a0, vIx_tup a1, e_integer, isI, k1, k2, isTask, e]
              · have e : isN (.int k) 2 4 = true := by simp [isN]; omega
                cases l with
                | tuple l =>
                  by_cases hk : (l.length : Int) = k
                  · have k1' : ¬ ((l.length : Int) < 2) := by omega
                    have k2' : ¬ (4 < (l.length : Int)) := by omega
                    have run : m__law_right [.fr (.tuple [.str "task", .int k, .tuple l, w, b])] S = ((mSeq (mFor (mItemsT (m2 vIx (mVar 0) (mC (.int 2)))) (tgN 2) bBn2) (mSeq (mIfS (m2B dGt (mVar 1) (mC (.int 4000))) (mRet (mC (.bool false))) mPass) (mSeq (mFor (mItemsT (mSl (mVar 0) (mPart (mC (.int 3))) mNone)) (tgN 3) bSd) (mRet (mC (.bool true)))))) [.fr (.tuple [.str "task", .int k, .tuple l, w, b]), .fr (.int 1), .un, .un, .un] S).fin := by
                      unfold m__law_right b__law_right
                      rw [mFn_at (np := 1) (show _ = 1 from rfl), seq_nx (e := [.fr (.tuple [.str "task", .int k, .tuple l, w, b]), .un, .un, .un, .un]) (S1 := S) (by simp [startE, slA, vIsa, isTy, tyName, vIx_tup a0]),
                        seq_nx (e := [.fr (.tuple [.str "task", .int k, .tuple l, w, b]), .un, .un, .un, .un]) (S1 := S) (by simp [vIx_tup a1, e_integer, isI, k1, k2]),
                        seq_nx (e := [.fr (.tuple [.str "task", .int k, .tuple l, w, b]), .un, .un, .un, .un]) (S1 := S) (by simp [vIx_tup a1, vIx_tup a2, vIsa, isTy, tyName, hk]),
                        seq_nx (e := [.fr (.tuple [.str "task", .int k, .tuple l, w, b]), .fr (.int 1), .un, .un, .un]) (S1 := S) (by simp)]
                    rw [run]
                    have f1 : ∀ env : En, env[0]? = some (.fr (.tuple [.str "task", .int k, .tuple l, w, b])) → mItemsT (m2 vIx (mVar 0) (mC (.int 2))) env S = .ok l S := fun env he => by simp [he, vIx_tup a2, vItemsT]
                    rcases go_bn2 (.fr (.tuple [.str "task", .int k, .tuple l, w, b])) .un .un S l 1 .un with ⟨q1, b', q2⟩ | ⟨q1, q2⟩
                    · rw [seq_nx ((mFor_run (f1 _ rfl)).trans q2)]
                      obtain ⟨ls, rfl, hls⟩ := all_iL q1
                      have hkl : okR (ls.length : Int) = true := okR_int (by omega) (by simp at k2'; omega)
                      rw [Int.one_mul]
                      by_cases hp4 : prodD (iL ls) ≤ 4000
                      · have hb : boundsB (iL ls) = true := by simp only [boundsB, hp4, decide_true, Bool.and_true]; exact q1
                        have hp4' : ¬ (4000 < prodD (iL ls)) := by omega
                        rw [seq_nx (e := [.fr (.tuple [.str "task", .int k, .tuple (iL ls), w, b]), .fr (.int (prodD (iL ls))), b', .un, .un]) (S1 := S) (by simp [hp4'])]
                        have f2 : mItemsT (mSl (mVar 0) (mPart (mC (.int 3))) mNone) [.fr (.tuple [.str "task", .int k, .tuple (iL ls), w, b]), .fr (.int (prodD (iL ls))), b', .un, .un] S = .ok [w, b] S := by
                          simp [mSl, mPart, vItemsT, show vSl (.fr (.tuple [.str "task", .int k, .tuple (iL ls), w, b])) (some 3) none = some (.fr (.tuple [w, b])) from rfl]
                        have hk' : ((ls.length : Int) = k) := by simpa using hk
                        have g1 : goFor (tgN 3) bSd [w, b] [.fr (.tuple [.str "task", .int k, .tuple (iL ls), w, b]), .fr (.int (prodD (iL ls))), b', .un, .un] S = (bSd [.fr (.tuple [.str "task", .int k, .tuple (iL ls), w, b]), .fr (.int (prodD (iL ls))), b', .fr w, .un] S).loop (goFor (tgN 3) bSd [b]) := rfl
                        rcases one_sd _ ls a2 hkl (.fr (.int (prodD (iL ls)))) b' .un w S with ⟨p1, c1, p2⟩ | ⟨p1, p2⟩
                        · have g2 : goFor (tgN 3) bSd [b] [.fr (.tuple [.str "task", .int k, .tuple (iL ls), w, b]), .fr (.int (prodD (iL ls))), b', .fr w, c1] S = (bSd [.fr (.tuple [.str "task", .int k, .tuple (iL ls), w, b]), .fr (.int (prodD (iL ls))), b', .fr b, c1] S).loop (goFor (tgN 3) bSd []) := rfl
                          rcases one_sd _ ls a2 hkl (.fr (.int (prodD (iL ls)))) b' c1 b S with ⟨s1, c2, s2⟩ | ⟨s1, s2⟩
                          · rw [seq_nx ((mFor_run f2).trans (g1.trans (by rw [p2, loop_nx, g2, s2, loop_nx]; rfl)))]
                            simp [isTask, e, iOf, hk', hb, map_iOf, p1, s1]
                          · rw [seq_rt ((mFor_run f2).trans (g1.trans (by rw [p2, loop_nx, g2, s2]; rfl)))]
                            simp [isTask, e, iOf, hk', hb, map_iOf, p1, s1]
                        · rw [seq_rt ((mFor_run f2).trans (g1.trans (by rw [p2]; rfl)))]
                          simp [isTask, e, iOf, hk', hb, map_iOf, p1]
                      · have hp4' : (4000 < prodD (iL ls)) := by omega
                        rw [seq_rt (v := .fr (.bool false)) (S1 := S) (by simp [hp4'])]
                        simp [boundsB, hp4]
                    · rw [seq_rt ((mFor_run (f1 _ rfl)).trans q2)]
                      simp only [boundsB]
                      rw [q1]
                      simp
                  · have hk' : ¬ ((l.length : Int) = iOf (.int k)) := hk
                    simp [m__law_right, mFn, startE, slA, b__law_right, vIsa, isTy, tyName, vIx_tup a0, vIx_tup a1, vIx_tup a2, e_integer, isI, k1, k2, isTask, hk, hk']
                | _ => simp [m__law_right, mFn, startE, slA, b__law_right, vIsa, isTy, tyName, vIx_tup a0, vIx_tup a1, vIx_tup a2, e_integer, isI, k1, k2, isTask]
          | _ => simp [m__law_right, mFn, startE, slA, b__law_right, vIsa, isTy, tyName, vIx_tup a0, vIx_tup a1, e_integer, isI, isTask, isN]
        · simp [m__law_right, mFn, startE, slA, b__law_right, vIsa, isTy, tyName, vIx_tup a0, ht, isTask]
      | _ => simp [m__law_right, mFn, startE, slA, b__law_right, vIsa, isTy, tyName, vIx_tup a0, isTask]
    · have hl' : ¬ ((xs.length : Int) = 5) := by omega
      have hr : rightB (.tuple xs) = false := by
        cases hr : rightB (.tuple xs) with
        | false => rfl
        | true =>
          unfold rightB at hr
          split at hr
          · rename_i e; cases e; exact absurd rfl hl
          · cases hr
      rw [hr]
      simp [m__law_right, mFn, startE, slA, b__law_right, vIsa, isTy, tyName, hl']
  | _ =>
    show _ = Res.ok (Vl.fr (PyData.bool false)) S
    simp [m__law_right, mFn, startE, slA, b__law_right, vIsa, isTy, tyName]
end K01
end

section
set_option Elab.async false
set_option linter.all false
set_option maxRecDepth 100000
set_option maxHeartbeats 1000000
namespace K01
open PySem PySem.Spec PyProof.Rows L2 TL PySem.W

/-! ### how long the text of a value is -/
def txtL : List Str := ["task", "", "2", "0", "Task", "tasks"]
mutual
def okA : PyData → Bool
  | .none => true
  | .bool _ => true
  | .int i => decide (i.natAbs ≤ 75)
  | .str x => txtL.contains x
  | .list ds => okAs ds
  | .tuple ds => okAs ds
  | .dict kvs => okKv kvs
def okAs : List PyData → Bool
  | [] => true
  | d :: r => okA d && okAs r
def okKv : List (PyData × PyData) → Bool
  | [] => true
  | (k, v) :: r => okA k && okA v && okKv r
end
mutual
def nz : PyData → Nat
  | .none => 8
  | .bool _ => 8
  | .int _ => 8
  | .str _ => 8
  | .list ds => 4 + nzs ds
  | .tuple ds => 4 + nzs ds
  | .dict kvs => 4 + nzKv kvs
def nzs : List PyData → Nat
  | [] => 0
  | d :: r => nz d + 2 + nzs r
def nzKv : List (PyData × PyData) → Nat
  | [] => 0
  | (k, v) :: r => nz k + nz v + 4 + nzKv r
end
def lens : List Str → Nat
  | [] => 0
  | t :: r => t.length + 2 + lens r
theorem textFrom_le : ∀ (ts : List Str) (k : Nat) (acc : Str), (textFrom k acc ts).length ≤ acc.length + lens ts
  | [], k, acc => by show acc.length ≤ acc.length + 0; omega
  | t :: r, k, acc => by
    have h := textFrom_le r (k + 1) (acc ++ (if k > 0 then ", " else "" : String) ++ t)
    have e : (acc ++ (if k > 0 then ", " else "" : String) ++ t).length ≤ acc.length + 2 + t.length := by
      rw [strLen_append, strLen_append]
      split
      · exact Nat.le_refl _
      · show acc.length + 0 + t.length ≤ _; omega
    show (textFrom (k + 1) _ r).length ≤ _
    unfold lens
    omega
theorem join_le : ∀ ts : List Str, (Str.join ", " ts).length ≤ lens ts
  | [] => Nat.le_refl _
  | t :: r => by
    have h := join_length_add (t :: r) (by simp)
    have e : ∀ ts : List Str, piled ts = lens ts := fun ts => by
      induction ts with
      | nil => rfl
      | cons t r ih => simp only [lens, ← ih]; simp [piled]
    rw [e] at h
    omega
theorem int_len : ∀ i : Int, i.natAbs ≤ 75 → ((toString i : String) : Str).length ≤ 8 := by
  have h : ∀ n : Fin 76, ((toString (n.val : Int) : String) : Str).length ≤ 8 ∧ ((toString (-(n.val : Int)) : String) : Str).length ≤ 8 := by decide +kernel
  intro i hi
  rcases Int.natAbs_eq i with e | e
  · rw [e]; exact (h ⟨i.natAbs, by omega⟩).1
  · rw [e]; exact (h ⟨i.natAbs, by omega⟩).2
theorem txt_len : ∀ x : Str, txtL.contains x = true → (reprText x).length ≤ 8 := by
  have h : ∀ x ∈ txtL, (reprText x).length ≤ 8 := by decide +kernel
  intro x hx
  exact h x (by simpa using hx)
theorem one_len {x : String} (h : ((x : Str)).length ≤ 8) : ((x : Str)).length ≤ 8 := h
mutual
theorem shown_le : ∀ d : PyData, okA d = true → d.shown.length ≤ nz d
  | .none, _ => by show ("None" : Str).length ≤ 8; decide +kernel
  | .bool b, _ => by cases b <;> (simp only [PyData.shown, nz]; decide +kernel)
  | .int i, h => int_len i (of_decide_eq_true h)
  | .str x, h => txt_len x h
  | .list ds, h => by
    show (textFrom 0 "[" (PyData.shownAll ds) ++ ("]" : Str)).length ≤ 4 + nzs ds
    have h1 := textFrom_le (PyData.shownAll ds) 0 "["
    have h2 := shownAll_le ds h
    rw [strLen_append]
    have e1 : ("[" : Str).length = 1 := rfl
    have e2 : ("]" : Str).length = 1 := rfl
    rw [e1] at h1
    rw [e2]
    omega
  | .tuple ds, h => by
    show (("(" : Str) ++ Str.join ", " (PyData.shownAll ds) ++ ((if (PyData.shownAll ds).length == 1 then ",)" else ")" : String) : Str)).length ≤ 4 + nzs ds
    have h1 := join_le (PyData.shownAll ds)
    have h2 := shownAll_le ds h
    rw [strLen_append, strLen_append]
    have e1 : ("(" : Str).length = 1 := rfl
    have e2 : ((if (PyData.shownAll ds).length == 1 then ",)" else ")" : String) : Str).length ≤ 2 := by
      split
      · exact Nat.le_refl _
      · show 1 ≤ 2; omega
    rw [e1]
    omega
  | .dict kvs, h => by
    show (("{" : Str) ++ Str.join ", " (PyData.shownKv kvs) ++ ("}" : Str)).length ≤ 4 + nzKv kvs
    have h1 := join_le (PyData.shownKv kvs)
    have h2 := shownKv_le kvs h
    rw [strLen_append, strLen_append]
    have e1 : ("{" : Str).length = 1 := rfl
    have e2 : ("}" : Str).length = 1 := rfl
    rw [e1, e2]
    omega
theorem shownAll_le : ∀ ds : List PyData, okAs ds = true → lens (PyData.shownAll ds) ≤ nzs ds
  | [], _ => Nat.le_refl _
  | d :: r, h => by
    simp only [okAs, Bool.and_eq_true] at h
    have h1 := shown_le d h.1
    have h2 := shownAll_le r h.2
    show d.shown.length + 2 + lens (PyData.shownAll r) ≤ nz d + 2 + nzs r
    omega
theorem shownKv_le : ∀ ds : List (PyData × PyData), okKv ds = true → lens (PyData.shownKv ds) ≤ nzKv ds
  | [], _ => Nat.le_refl _
  | (k, v) :: r, h => by
    simp only [okKv, Bool.and_eq_true] at h
    have h1 := shown_le k h.1.1
    have h2 := shown_le v h.1.2
    have h3 := shownKv_le r h.2
    show (k.shown ++ (": " : Str) ++ v.shown).length + 2 + lens (PyData.shownKv r) ≤ nz k + nz v + 4 + nzKv r
    rw [strLen_append, strLen_append]
    have e : (": " : Str).length = 2 := rfl
    rw [e]
    omega
end
mutual
theorem showable_ok : ∀ d : PyData, okA d = true → d.showable = true
  | .none, _ => rfl
  | .bool b, _ => rfl
  | .int i, h => by
    have h : i.natAbs ≤ 75 := of_decide_eq_true h
    have h2 : ∀ n : Fin 76, n.val.log2 < 1920 := by decide +kernel
    exact decide_eq_true (h2 ⟨i.natAbs, by omega⟩)
  | .str x, h => rfl
  | .list ds, h => showableAll_ok ds h
  | .tuple ds, h => showableAll_ok ds h
  | .dict kvs, h => showableKv_ok kvs h
theorem showableAll_ok : ∀ ds : List PyData, okAs ds = true → PyData.showableAll ds = true
  | [], _ => rfl
  | d :: r, h => by
    simp only [okAs, Bool.and_eq_true] at h
    simp only [PyData.showableAll, Bool.and_eq_true]
    exact ⟨showable_ok d h.1, showableAll_ok r h.2⟩
theorem showableKv_ok : ∀ ds : List (PyData × PyData), okKv ds = true → PyData.showableKv ds = true
  | [], _ => rfl
  | (k, v) :: r, h => by
    simp only [okKv, Bool.and_eq_true] at h
    simp only [PyData.showableKv, Bool.and_eq_true]
    exact ⟨⟨showable_ok k h.1.1, showable_ok v h.1.2⟩, showableKv_ok r h.2⟩
end
/-- neither lists nor dicts within, at most k deep, at most c long; Od: one of the two may be -/
structure Pu (k c : Nat) (d : PyData) : Prop where
  a : okA d = true
  p : d.plain = true
  l : noList d = true
  k : d.depth ≤ k
  c : nz d ≤ c
structure Od (k c : Nat) (d : PyData) : Prop where
  a : okA d = true
  p : d.plain = true ∨ noList d = true
  k : d.depth ≤ k
  c : nz d ≤ c
theorem Pu.od {k c : Nat} {d : PyData} (h : Pu k c d) : Od k c d := ⟨h.a, .inl h.p, h.k, h.c⟩
theorem Od.mono {k c k' c' : Nat} {d : PyData} (h : Od k c d) (hk : k ≤ k') (hc : c ≤ c') : Od k' c' d := ⟨h.a, h.p, Nat.le_trans h.k hk, Nat.le_trans h.c hc⟩
theorem Pu.mono {k c k' c' : Nat} {d : PyData} (h : Pu k c d) (hk : k ≤ k') (hc : c ≤ c') : Pu k' c' d := ⟨h.a, h.p, h.l, Nat.le_trans h.k hk, Nat.le_trans h.c hc⟩
theorem Od.rep {k c : Nat} {d : PyData} (h : Od k c d) (hk : k ≤ 60) (hc : c ≤ 16777216) : okRepr d = true := by
  unfold okRepr
  have h1 := shown_le d h.a
  have h2 := h.k
  have h3 := h.c
  simp only [Bool.and_eq_true, Bool.or_eq_true, decide_eq_true_eq]
  exact ⟨⟨⟨h.p, showable_ok d h.a⟩, Nat.le_trans h2 hk⟩, Nat.le_trans (Nat.le_trans h1 h3) hc⟩
theorem okAs_of : ∀ {ds : List PyData}, (∀ d ∈ ds, okA d = true) → okAs ds = true
  | [], _ => rfl
  | d :: r, h => by
    simp only [okAs, Bool.and_eq_true]
    exact ⟨h d (by simp), okAs_of fun e he => h e (by simp [he])⟩
theorem plainAll_of : ∀ {ds : List PyData}, (∀ d ∈ ds, d.plain = true) → PyData.plainAll ds = true
  | [], _ => rfl
  | d :: r, h => by
    simp only [PyData.plainAll, Bool.and_eq_true]
    exact ⟨h d (by simp), plainAll_of fun e he => h e (by simp [he])⟩
theorem noListAll_of : ∀ {ds : List PyData}, (∀ d ∈ ds, noList d = true) → noListAll ds = true
  | [], _ => rfl
  | d :: r, h => by
    simp only [noListAll, Bool.and_eq_true]
    exact ⟨h d (by simp), noListAll_of fun e he => h e (by simp [he])⟩
theorem depthAll_of {k : Nat} : ∀ {ds : List PyData}, (∀ d ∈ ds, d.depth ≤ k) → PyData.depthAll ds ≤ k
  | [], _ => Nat.zero_le _
  | d :: r, h => by
    simp only [PyData.depthAll]
    have h1 := h d (by simp)
    have h2 := depthAll_of (ds := r) fun e he => h e (by simp [he])
    omega
theorem nzs_of {c : Nat} : ∀ {ds : List PyData}, (∀ d ∈ ds, nz d ≤ c) → nzs ds ≤ ds.length * (c + 2)
  | [], _ => Nat.zero_le _
  | d :: r, h => by
    simp only [nzs, List.length_cons, Nat.succ_mul]
    have h1 := h d (by simp)
    have h2 := nzs_of (ds := r) fun e he => h e (by simp [he])
    omega
theorem Pu.tup {k c m : Nat} {ds : List PyData} (h : ∀ d ∈ ds, Pu k c d) (hm : ds.length ≤ m) : Pu (k + 1) (4 + m * (c + 2)) (.tuple ds) := by
  refine ⟨okAs_of fun d hd => (h d hd).a, plainAll_of fun d hd => (h d hd).p, noListAll_of fun d hd => (h d hd).l, Nat.succ_le_succ (depthAll_of fun d hd => (h d hd).k), ?_⟩
  have h1 := nzs_of (c := c) fun d hd => (h d hd).c
  have h2 := Nat.mul_le_mul_right (c + 2) hm
  show 4 + nzs ds ≤ _
  omega
theorem Od.lst {k c m : Nat} {ds : List PyData} (h : ∀ d ∈ ds, Pu k c d) (hm : ds.length ≤ m) : Od (k + 1) (4 + m * (c + 2)) (.list ds) := by
  refine ⟨okAs_of fun d hd => (h d hd).a, .inl (plainAll_of fun d hd => (h d hd).p), Nat.succ_le_succ (depthAll_of fun d hd => (h d hd).k), ?_⟩
  have h1 := nzs_of (c := c) fun d hd => (h d hd).c
  have h2 := Nat.mul_le_mul_right (c + 2) hm
  show 4 + nzs ds ≤ _
  omega
/-- one part of them may be odd -/
theorem Od.mid {k c m : Nat} {xs ys : List PyData} {p : PyData} (hx : ∀ d ∈ xs, Pu k c d) (hy : ∀ d ∈ ys, Pu k c d) (hp : Od k c p) (hm : xs.length + ys.length + 1 ≤ m) : Od (k + 1) (4 + m * (c + 2)) (.tuple (xs ++ [p] ++ ys)) := by
  have mem : ∀ d ∈ xs ++ [p] ++ ys, d ∈ xs ∨ d = p ∨ d ∈ ys := fun d hd => by simpa [or_assoc] using hd
  refine ⟨okAs_of fun d hd => (mem d hd).elim (fun z => (hx d z).a) fun z => z.elim (fun e => e ▸ hp.a) fun z => (hy d z).a, ?_, Nat.succ_le_succ (depthAll_of fun d hd => (mem d hd).elim (fun z => (hx d z).k) fun z => z.elim (fun e => e ▸ hp.k) fun z => (hy d z).k), ?_⟩
  · rcases hp.p with q | q
    · exact .inl (plainAll_of fun d hd => (mem d hd).elim (fun z => (hx d z).p) fun z => z.elim (fun e => e ▸ q) fun z => (hy d z).p)
    · exact .inr (noListAll_of fun d hd => (mem d hd).elim (fun z => (hx d z).l) fun z => z.elim (fun e => e ▸ q) fun z => (hy d z).l)
  · have h1 := nzs_of (c := c) fun d hd => (mem d hd).elim (fun z => (hx d z).c) fun z => z.elim (fun e => e ▸ hp.c) fun z => (hy d z).c
    have h2 := Nat.mul_le_mul_right (c + 2) (show (xs ++ [p] ++ ys).length ≤ m by simp; omega)
    show 4 + nzs (xs ++ [p] ++ ys) ≤ _
    omega
theorem Pu.int {i : Int} (h : i.natAbs ≤ 75) : Pu 0 8 (.int i) := ⟨decide_eq_true h, rfl, rfl, Nat.le_refl _, Nat.le_refl _⟩
end K01
end

section
set_option Elab.async false
set_option linter.all false
set_option maxRecDepth 100000
set_option maxHeartbeats 1000000
namespace K01
open PySem PySem.Spec PyProof.Rows L2 TL PySem.W

theorem iL_app (xs : List Int) (x : Int) : iL (xs ++ [x]) = iL xs ++ [.int x] := by simp [iL]
theorem iL_set (xs : List Int) (i : Nat) (x : Int) : (iL xs).set i (.int x) = iL (xs.set i x) := by simp [iL, List.map_set]
theorem small_mod {x c : Int} (h0 : 0 < c) (h : c < 18446744073709551616) : small (x % c) = true := by
  have h1 := Int.emod_nonneg x (show c ≠ 0 by omega)
  have h2 := Int.emod_lt_of_pos x h0
  exact decide_eq_true (by omega)
theorem vMul_r {i j : Int} (h : small j = true) : vMul (.fr (.int i)) (.fr (.int j)) = some (.fr (.int (i * j))) := vMul_int (by rw [h, Bool.or_true])
theorem small_lit {j : Int} (h : j.natAbs < 18446744073709551616) : small j = true := decide_eq_true h
theorem pow18 : vPow (.fr (.int 10)) (.fr (.int 18)) = some (.fr (.int 1000000000000000000)) := by
  simp [vPow, i2]
noncomputable abbrev bTail : MS := (mSeq (mSet 7 (m2 vMod (mL (on1 vInt) (mCons (m2 vAdd (m2 vAdd (m2 vMul (mVar 5) (mC (.int 48271))) (m2 vMul (mVar 4) (mC (.int 69621)))) (mC (.int 11))) mNil)) (mC (.int 2147483647)))) (mSeq (mSet 7 (m2 vMod (mL (on1 vInt) (mCons (m2 vAdd (m2 vDiv (m2 vMul (mVar 7) (mVar 7)) (mC (.int 4096))) (mVar 7)) mNil)) (mC (.int 2147483629)))) (mApp 3 (m2 vMod (mL (on1 vInt) (mCons (m2 vAdd (m2 vDiv (m2 vMul (mVar 7) (mVar 7)) (mC (.int 4096))) (m2 vMul (mVar 4) (mC (.int 7919)))) mNil)) (mC (.int 2147483629))))))
theorem d_tail (r0 r1 r2 a m : Sl) (draws : List Int) (k c : Int) (S : Sto) (h : draws.length < 16777216) : ∃ x y, bTail [r0, r1, r2, .ow (.list (iL draws)), .fr (.int k), .fr (.int c), a, m] S = .nx [r0, r1, r2, .ow (.list (iL (draws ++ [x]))), .fr (.int k), .fr (.int c), a, .fr (.int y)] S := by
  have s1 : ∀ x : Int, small (x % 2147483647) = true := fun x => small_mod (by decide) (by decide)
  have s2 : ∀ x : Int, small (x % 2147483629) = true := fun x => small_mod (by decide) (by decide)
  have l1 : small 48271 = true := small_lit (by decide)
  have l2 : small 69621 = true := small_lit (by decide)
  have l3 : small 7919 = true := small_lit (by decide)
  generalize hM1 : (c * 48271 + k * 69621 + 11) % 2147483647 = M1
  have sM1 : small M1 = true := by rw [← hM1]; exact s1 _
  generalize hM2 : (M1 * M1 / 4096 + M1) % 2147483629 = M2
  have sM2 : small M2 = true := by rw [← hM2]; exact s2 _
  refine ⟨(M2 * M2 / 4096 + k * 7919) % 2147483629, M2, ?_⟩
  have e1 : vMod (.fr (.int (c * 48271 + k * 69621 + 11))) (.fr (.int 2147483647)) = some (.fr (.int M1)) := by rw [vMod_int (by decide), hM1]
  have e2 : vMod (.fr (.int (M1 * M1 / 4096 + M1))) (.fr (.int 2147483629)) = some (.fr (.int M2)) := by rw [vMod_int (by decide), hM2]
  have e3 : vMod (.fr (.int (M2 * M2 / 4096 + k * 7919))) (.fr (.int 2147483629)) = some (.fr (.int ((M2 * M2 / 4096 + k * 7919) % 2147483629))) := vMod_int (by decide)
  have d1 : vDiv (.fr (.int (M1 * M1))) (.fr (.int 4096)) = some (.fr (.int (M1 * M1 / 4096))) := vDiv_int (by decide) (by decide)
  have d2 : vDiv (.fr (.int (M2 * M2))) (.fr (.int 4096)) = some (.fr (.int (M2 * M2 / 4096))) := vDiv_int (by decide) (by decide)
  refine (seq_nx (e := [r0, r1, r2, .ow (.list (iL draws)), .fr (.int k), .fr (.int c), a, .fr (.int M1)]) (S1 := S) ?_).trans ((seq_nx (e := [r0, r1, r2, .ow (.list (iL draws)), .fr (.int k), .fr (.int c), a, .fr (.int M2)]) (S1 := S) ?_).trans ?_)
  · simp [vMul_r l1, vMul_r l2, e1]
  · simp [vMul_r sM1, d1, e2]
  · rw [iL_app]
    simp [mApp, vMul_r sM2, vMul_r l3, d2, e3, h]
noncomputable abbrev bMid : MS := (mIfS (m2B dGt (mL vLen (mCons (mVar 0) mNil)) (mC (.int 0))) (mSeq (mSet 6 (m2 vMod (mVar 4) (mL vLen (mCons (mVar 0) mNil)))) (mSeq (mSet 5 (mL (on1 vInt) (mCons (m2 vIx (mVar 0) (mVar 6)) mNil))) (mIfS (mAnd (m2B dGe (mVar 5) (m2 vPow (mC (.int 10)) (mC (.int 18)))) (m2B dGt (m2 vIx (mVar 2) (mVar 6)) (mC (.int 0)))) (mSeq (mApp 3 (m2 vMod (mL (on1 vInt) (mCons (m2 vIx (mVar 2) (mVar 6)) mNil)) (mC (.int 1000003)))) (mSeq (mSetI 2 (mVar 6) (m2 vDiv (mL (on1 vInt) (mCons (m2 vIx (mVar 2) (mVar 6)) mNil)) (mC (.int 1000003)))) (fun env S => .ct env S))) mPass))) mPass)
noncomputable abbrev bDraw : MS := (mSeq (mSet 5 (mVar 4)) (mSeq bMid bTail))
/-- one turn of the draws -/
theorem d_turn (ns : List Int) (r1 a c m : Sl) (rests draws : List Int) (k : Nat) (S : Sto) (hr : rests.length = ns.length) (h : draws.length < 16777216) : ∃ rests' x a' c' m', rests'.length = ns.length ∧
    (bDraw [.sc ns, r1, .ow (.list (iL rests)), .ow (.list (iL draws)), .fr (.int k), c, a, m] S = .nx [.sc ns, r1, .ow (.list (iL rests')), .ow (.list (iL (draws ++ [x]))), .fr (.int k), c', a', m'] S ∨
      bDraw [.sc ns, r1, .ow (.list (iL rests)), .ow (.list (iL draws)), .fr (.int k), c, a, m] S = .ct [.sc ns, r1, .ow (.list (iL rests')), .ow (.list (iL (draws ++ [x]))), .fr (.int k), c', a', m'] S) := by
  have f1 : mSet 5 (mVar 4) [.sc ns, r1, .ow (.list (iL rests)), .ow (.list (iL draws)), .fr (.int k), c, a, m] S = .nx [.sc ns, r1, .ow (.list (iL rests)), .ow (.list (iL draws)), .fr (.int k), .fr (.int k), a, m] S := by simp
  by_cases h0 : 0 < ns.length
  · have h0' : (0 : Int) < ns.length := by omega
    generalize hat : k % ns.length = at'
    have hlt : at' < ns.length := by rw [← hat]; exact Nat.mod_lt _ h0
    have e1 : vMod (.fr (.int k)) (.fr (.int ns.length)) = some (.fr (.int at')) := by rw [vMod_int h0', ← hat]; simp
    have e2 : vIx (.sc ns) (.fr (.int at')) = some (.fr (.int ns[at'])) := by
      show (L2.atI ns (at' : Int)).map _ = _
      rw [atI_at hlt]; rfl
    have hlt2 : at' < rests.length := by omega
    have e3 : vIx (.bo 2 (.list (iL rests))) (.fr (.int at')) = some (.fr (.int rests[at'])) := vIx_lstb (iL_at hlt2)
    by_cases hc : 1000000000000000000 ≤ ns[at'] ∧ 0 < rests[at']
    · refine ⟨rests.set at' (rests[at'] / 1000003), rests[at'] % 1000003, .fr (.int at'), .fr (.int ns[at']), m, by simp [hr], .inr ?_⟩
      have m1 : vMod (.fr (.int rests[at'])) (.fr (.int 1000003)) = some (.fr (.int (rests[at'] % 1000003))) := vMod_int (by decide)
      have d1 : vDiv (.fr (.int rests[at'])) (.fr (.int 1000003)) = some (.fr (.int (rests[at'] / 1000003))) := vDiv_int (by decide) (by decide)
      have ix : L2.ixN rests.length (at' : Int) = some at' := by unfold L2.ixN; simp [hlt2]
      refine (seq_nx f1).trans (seq_ct ?_)
      rw [iL_app, ← iL_set]
      simp [h0, e1, e2, e3, pow18, hc.1, hc.2, mApp, m1, h, mSetI, d1, ix]
    · have f2 : bMid [.sc ns, r1, .ow (.list (iL rests)), .ow (.list (iL draws)), .fr (.int k), .fr (.int k), a, m] S = .nx [.sc ns, r1, .ow (.list (iL rests)), .ow (.list (iL draws)), .fr (.int k), .fr (.int ns[at']), .fr (.int at'), m] S := by
        by_cases c1 : 1000000000000000000 ≤ ns[at']
        · have c2 : ¬ 0 < rests[at'] := fun z => hc ⟨c1, z⟩
          simp [h0, e1, e2, e3, pow18, c1, c2]
        · simp [h0, e1, e2, e3, pow18, c1]
      obtain ⟨x, y, ht⟩ := d_tail (.sc ns) r1 (.ow (.list (iL rests))) (.fr (.int at')) m draws k ns[at'] S h
      exact ⟨rests, x, _, _, _, hr, .inl ((seq_nx f1).trans ((seq_nx f2).trans ht))⟩
  · have f2 : bMid [.sc ns, r1, .ow (.list (iL rests)), .ow (.list (iL draws)), .fr (.int k), .fr (.int k), a, m] S = .nx [.sc ns, r1, .ow (.list (iL rests)), .ow (.list (iL draws)), .fr (.int k), .fr (.int k), a, m] S := by simp [h0]
    obtain ⟨x, y, ht⟩ := d_tail (.sc ns) r1 (.ow (.list (iL rests))) a m draws k k S h
    exact ⟨rests, x, _, _, _, hr, .inl ((seq_nx f1).trans ((seq_nx f2).trans ht))⟩
theorem iL_ex {α : Type} (f : α → Int) : ∀ xs : List α, xs.map (fun x => PyData.int (f x)) = iL (xs.map f) := fun xs => by simp [iL]
theorem e_draws (ns : List Int) (hn : ns.length ≤ 63) (S : Sto) : ∃ ds, m__law_draws [.sc ns, .fr (.int 150)] S = .ok (.ow (.list (iL ds))) S := by
  have lc : ∃ rests, rests.length = ns.length ∧ mLc (mItems (mVar 0)) (tgN 5) mYes (mL (on1 vAbs) (mCons (mL (on1 vInt) (mCons (mVar 5) mNil)) mNil)) [5] [.sc ns, .fr (.int 150), .un, .un, .un, .un, .un, .un] S = .ok (.ow (.list (iL rests))) S := by
    obtain ⟨acc, S', h1, rfl, rs, as, hr, rfl, hl⟩ := goLc_inv (f := tgN 5) (mt := mYes) (ma := mL (on1 vAbs) (mCons (mL (on1 vInt) (mCons (mVar 5) mNil)) mNil)) (env := [.sc ns, .fr (.int 150), .un, .un, .un, .un, .un, .un])
      (fun rest acc S' => S' = S ∧ ∃ rs as : List Int, rest = iL rs ∧ acc = iL as ∧ as.length + rs.length = ns.length) (fun d r acc S' ⟨e, rs, as, hr, ha, hl⟩ => by
        subst e ha
        cases rs with
        | nil => cases hr
        | cons i rs =>
          cases hr
          simp only [List.length_cons] at hl
          refine ⟨[.sc ns, .fr (.int 150), .un, .un, .un, .fr (.int i), .un, .un], S', .fr (.int (if i < 0 then -i else i)), S', _, rfl, rfl, by simp, rfl, by simp; omega, rfl, rs, as ++ [if i < 0 then -i else i], rfl, (iL_app _ _).symm, by simp; omega⟩) (iL ns) [] S ⟨rfl, ns, [], rfl, rfl, by simp⟩
    cases rs with
    | cons i rs => cases hr
    | nil =>
      refine ⟨as, by simpa using hl, ?_⟩
      simp only [mLc, mItems_at, mVar_at, List.getElem?_cons_zero, bind_ok, vItems, wipeE]
      show (goLc _ _ _ ([.sc ns, .fr (.int 150), .un, .un, .un, .un, .un, .un] : En) (iL ns) [] S').bind _ = _
      rw [h1]; rfl
  obtain ⟨rests, hrl, hlc⟩ := lc
  obtain ⟨env, S', h1, rfl, rests2, draws, k, c, a, m, rfl, _⟩ := goFor_inv (f := tgN 4) (b := bDraw) (fun ds env S' => S' = S ∧ ∃ (rests draws : List Int) (k c a m : Sl), env = [.sc ns, .fr (.int 150), .ow (.list (iL rests)), .ow (.list (iL draws)), k, c, a, m] ∧ rests.length = ns.length ∧ draws.length + ds.length ≤ 150 ∧ ∃ lo n, ds = (List.range' lo n).map fun j => PyData.int (j : Nat))
    (fun d r env S' ⟨e, rests, draws, k, c, a, m, he, hr, hd, lo, n, hds⟩ => by
      subst e he
      cases n with
      | zero => cases hds
      | succ n =>
        rw [List.range'_succ, List.map_cons] at hds
        cases hds
        simp only [List.length_cons] at hd
        obtain ⟨rests', x, a', c', m', hr', ht⟩ := d_turn ns (.fr (.int 150)) a c m rests draws lo S' hr (by omega)
        refine ⟨[.sc ns, .fr (.int 150), .ow (.list (iL rests)), .ow (.list (iL draws)), .fr (.int lo), c, a, m], _, _, rfl, ht, rfl, rests', draws ++ [x], _, _, _, _, rfl, hr', by simp at hd ⊢; omega, lo + 1, n, rfl⟩)
    (rngL 0 150) [.sc ns, .fr (.int 150), .ow (.list (iL rests)), .ow (.list (iL [])), .un, .un, .un, .un] S ⟨rfl, rests, [], _, _, _, _, rfl, hrl, by decide, 0, 150, rngL0 150⟩
  refine ⟨draws, ?_⟩
  unfold m__law_draws b__law_draws
  rw [mFn_at (np := 2) (show _ = 2 from rfl), seq_nx (e := [.sc ns, .fr (.int 150), .ow (.list (iL rests)), .un, .un, .un, .un, .un]) (S1 := S') (by rw [mSet_at]; show (mLc _ _ _ _ _ [.sc ns, .fr (.int 150), .un, .un, .un, .un, .un, .un] S').toS _ _ = _; rw [hlc]; rfl),
    seq_nx (e := [.sc ns, .fr (.int 150), .ow (.list (iL rests)), .ow (.list (iL [])), .un, .un, .un, .un]) (S1 := S') (by simp [vLst, sz, iL]),
    seq_nx ((mFor_run (mR1_run (S1 := S') (n := 150) (by simp) (by decide +kernel))).trans h1)]
  simp
end K01
end

section
set_option Elab.async false
set_option linter.all false
set_option maxRecDepth 100000
set_option maxHeartbeats 1000000
namespace K01
open PySem PySem.Spec PyProof.Rows L2 TL PySem.W

theorem iL_mem {xs : List Int} {d : PyData} (h : d ∈ iL xs) : ∃ x ∈ xs, d = .int x := by
  simp only [iL, List.mem_map] at h
  obtain ⟨x, h1, h2⟩ := h
  exact ⟨x, h1, h2.symm⟩
/-- three ways to a number below three -/
theorem lt3 {r : Int} (h0 : 0 ≤ r) (h : r < 3) : r = 0 ∨ r = 1 ∨ r = 2 := by omega
def LabP (ls : List Int) : Prop := 2 ≤ ls.length ∧ ls.length ≤ 4 ∧ ∀ l ∈ ls, 1 ≤ l ∧ l ≤ 60
theorem e_labels (ds : List Int) (n : Nat) (c : Int) (h2 : 2 ≤ c) (h4 : c ≤ 4) : ∃ ls n', m__law_labels [.rf 0, .fr (.int c)] (hd ds n) = .ok (.fr (.tuple (iL ls))) (hd ds n') ∧ (ls.length : Int) = c ∧ LabP ls := by
  obtain ⟨r, hr, r0, r1⟩ := e_take ds n 4 (by decide)
  by_cases hs : r = 0
  · subst hs
    obtain ⟨q, hq, q0, q1⟩ := e_take ds (n + 1) 3 (by decide)
    have hc : c = 2 ∨ c = 3 ∨ c = 4 := by omega
    rcases hc with rfl | rfl | rfl <;> rcases lt3 q0 q1 with rfl | rfl | rfl
    · exact ⟨[60, 60], n + 2, by simp [m__law_labels, mFn, startE, slA, b__law_labels, hr, hq, vLst, vTup, sz, mApp, vIx, L2.atI, L2.ixN, iL], rfl, by unfold LabP; decide⟩
    · exact ⟨[1, 60], n + 2, by simp [m__law_labels, mFn, startE, slA, b__law_labels, hr, hq, vLst, vTup, sz, mApp, vIx, L2.atI, L2.ixN, iL], rfl, by unfold LabP; decide⟩
    · exact ⟨[59, 60], n + 2, by simp [m__law_labels, mFn, startE, slA, b__law_labels, hr, hq, vLst, vTup, sz, mApp, vIx, L2.atI, L2.ixN, iL], rfl, by unfold LabP; decide⟩
    · exact ⟨[20, 20, 10], n + 2, by simp [m__law_labels, mFn, startE, slA, b__law_labels, hr, hq, vLst, vTup, sz, mApp, vIx, L2.atI, L2.ixN, iL], rfl, by unfold LabP; decide⟩
    · exact ⟨[16, 16, 15], n + 2, by simp [m__law_labels, mFn, startE, slA, b__law_labels, hr, hq, vLst, vTup, sz, mApp, vIx, L2.atI, L2.ixN, iL], rfl, by unfold LabP; decide⟩
    · exact ⟨[60, 60, 1], n + 2, by simp [m__law_labels, mFn, startE, slA, b__law_labels, hr, hq, vLst, vTup, sz, mApp, vIx, L2.atI, L2.ixN, iL], rfl, by unfold LabP; decide⟩
    · exact ⟨[10, 10, 10, 4], n + 2, by simp [m__law_labels, mFn, startE, slA, b__law_labels, hr, hq, vLst, vTup, sz, mApp, vIx, L2.atI, L2.ixN, iL], rfl, by unfold LabP; decide⟩
    · exact ⟨[8, 8, 8, 7], n + 2, by simp [m__law_labels, mFn, startE, slA, b__law_labels, hr, hq, vLst, vTup, sz, mApp, vIx, L2.atI, L2.ixN, iL], rfl, by unfold LabP; decide⟩
    · exact ⟨[1, 60, 1, 60], n + 2, by simp [m__law_labels, mFn, startE, slA, b__law_labels, hr, hq, vLst, vTup, sz, mApp, vIx, L2.atI, L2.ixN, iL], rfl, by unfold LabP; decide⟩
  · have lc : ∃ ls n', goLc (tgN 4) mYes (m2 vAdd (mC (.int 1)) (mCall m__law_take (mCons (mVar 0) (mCons (mC (.int 3)) mNil)))) [.rf 0, .fr (.int c), .fr (.int r), .un, .un] (rngL 0 c) [] (hd ds (n + 1)) = .ok (iL ls) (hd ds n') ∧ (ls.length : Int) = c ∧ ∀ l ∈ ls, 1 ≤ l ∧ l ≤ 60 := by
      obtain ⟨acc, S', h1, as, n', rfl, rfl, hl, hb⟩ := goLc_inv (f := tgN 4) (mt := mYes) (ma := m2 vAdd (mC (.int 1)) (mCall m__law_take (mCons (mVar 0) (mCons (mC (.int 3)) mNil)))) (env := [.rf 0, .fr (.int c), .fr (.int r), .un, .un])
        (fun rest acc S' => ∃ (as : List Int) (n' : Nat), acc = iL as ∧ S' = hd ds n' ∧ as.length + rest.length = c.toNat ∧ ∀ l ∈ as, 1 ≤ l ∧ l ≤ 60) (fun d rest acc S' ⟨as, n', ha, hS, hl, hb⟩ => by
          subst ha hS
          obtain ⟨x, hx, x0, x1⟩ := e_take ds n' 3 (by decide)
          simp only [List.length_cons] at hl
          exact ⟨[.rf 0, .fr (.int c), .fr (.int r), .un, .fr d], hd ds n', .fr (.int (1 + x)), hd ds (n' + 1), _, rfl, rfl, by simp [hx], rfl, by simp; omega, as ++ [1 + x], n' + 1, (iL_app _ _).symm, rfl, by simp; omega, fun l hm => (List.mem_append.mp hm).elim (hb l) fun z => by
            rw [List.mem_singleton.mp z]; omega⟩) (rngL 0 c) [] (hd ds (n + 1)) ⟨[], n + 1, rfl, rfl, by simp [rngL], by simp⟩
      exact ⟨as, n', h1, by simp at hl; omega, hb⟩
    obtain ⟨ls, n', h1, hl, hb⟩ := lc
    refine ⟨ls, n', ?_, hl, by omega, by omega, hb⟩
    have hk : okR c = true := okR_int (by omega) (by omega)
    simp [m__law_labels, mFn, startE, slA, b__law_labels, hr, hs, mLc, vRng1 hk, wipeE, h1]

/-! ### rows -/
def RowP (L : Nat) (r : PyData) : Prop := ∃ xs : List Int, r = .tuple (iL xs) ∧ xs.length = L ∧ ∀ x ∈ xs, 0 ≤ x ∧ x ≤ 60
def RowsP (L : Nat) (R : PyData) : Prop := ∃ rs, R = .tuple rs ∧ rs.length ≤ 5 ∧ ∀ r ∈ rs, RowP L r
theorem row_comp (ds : List Int) (ls : List Int) (hp : ∀ l ∈ ls, 1 ≤ l ∧ l ≤ 60) (r0 r1 r2 r3 r4 r5 : Sl) (hr0 : r0 = .rf 0) (hr1 : r1 = .fr (.tuple (iL ls))) (hl4 : ls.length ≤ 4) (n : Nat) : ∃ xs n', mLc (mItems (mVar 1)) (tgN 5) mYes (mCall m__law_take (mCons (mVar 0) (mCons (mVar 5) mNil))) [5] [r0, r1, r2, r3, r4, r5] (hd ds n) = .ok (.ow (.list (iL xs))) (hd ds n') ∧ xs.length = ls.length ∧ ∀ x ∈ xs, 0 ≤ x ∧ x ≤ 60 := by
  subst hr0 hr1
  obtain ⟨acc, S', h1, rs, as, n', hrs, rfl, rfl, hl, hb, _⟩ := goLc_inv (f := tgN 5) (mt := mYes) (ma := mCall m__law_take (mCons (mVar 0) (mCons (mVar 5) mNil))) (env := [.rf 0, .fr (.tuple (iL ls)), r2, r3, r4, .un])
    (fun rest acc S' => ∃ (rs as : List Int) (n' : Nat), rest = iL rs ∧ acc = iL as ∧ S' = hd ds n' ∧ as.length + rs.length = ls.length ∧ (∀ x ∈ as, 0 ≤ x ∧ x ≤ 60) ∧ ∀ l ∈ rs, 1 ≤ l ∧ l ≤ 60) (fun d rest acc S' ⟨rs, as, n', hr, ha, hS, hl, hb, hp⟩ => by
      subst ha hS
      cases rs with
      | nil => cases hr
      | cons i rs =>
        cases hr
        have hi := hp i (by simp)
        obtain ⟨x, hx, x0, x1⟩ := e_take ds n' i (by omega)
        simp only [List.length_cons] at hl
        exact ⟨[.rf 0, .fr (.tuple (iL ls)), r2, r3, r4, .fr (.int i)], hd ds n', .fr (.int x), hd ds (n' + 1), _, rfl, rfl, by simp [hx], rfl, by simp; omega, rs, as ++ [x], n' + 1, rfl, (iL_app _ _).symm, rfl, by simp; omega, fun l hm => (List.mem_append.mp hm).elim (hb l) fun z => by
          rw [List.mem_singleton.mp z]; omega, fun l hm => hp l (by simp [hm])⟩) (iL ls) [] (hd ds n) ⟨ls, [], n, rfl, rfl, rfl, by simp, by simp, hp⟩
  cases rs with
  | cons i rs => cases hrs
  | nil =>
    refine ⟨as, n', ?_, by simpa using hl, hb⟩
    simp [mLc, vItems, wipeE, h1]
theorem row_full (ls : List Int) (hp : ∀ l ∈ ls, 1 ≤ l ∧ l ≤ 60) (r0 r2 r3 r4 r5 : Sl) (hl4 : ls.length ≤ 4) (S : Sto) : mLc (mItems (mVar 1)) (tgN 5) mYes (m2 vSub (mVar 5) (mC (.int 1))) [5] [r0, .fr (.tuple (iL ls)), r2, r3, r4, r5] S = .ok (.ow (.list (iL (ls.map fun l => l - 1)))) S := by
  obtain ⟨acc, S', h1, rfl, rs, as, hrs, rfl, hl⟩ := goLc_inv (f := tgN 5) (mt := mYes) (ma := m2 vSub (mVar 5) (mC (.int 1))) (env := [r0, .fr (.tuple (iL ls)), r2, r3, r4, .un])
    (fun rest acc S' => S' = S ∧ ∃ (rs as : List Int), rest = iL rs ∧ acc = iL (as.map fun l => l - 1) ∧ as ++ rs = ls) (fun d rest acc S' ⟨e, rs, as, hr, ha, hl⟩ => by
      subst e ha
      cases rs with
      | nil => cases hr
      | cons i rs =>
        cases hr
        have : as.length ≤ ls.length := by rw [← hl]; simp
        exact ⟨[r0, .fr (.tuple (iL ls)), r2, r3, r4, .fr (.int i)], S', .fr (.int (i - 1)), S', _, rfl, rfl, by simp, rfl, by simp; omega, rfl, rs, as ++ [i], rfl, by simp [iL], by simpa using hl⟩) (iL ls) [] S ⟨rfl, ls, [], rfl, rfl, by simp⟩
  cases rs with
  | cons i rs => cases hrs
  | nil =>
    simp at hl
    subst hl
    simp [mLc, vItems, wipeE, h1]
theorem RowP.plain {L : Nat} {r : PyData} (h : RowP L r) : r.plain = true := by
  obtain ⟨xs, rfl, _⟩ := h
  simp [PyData.plain, plain_iL]
theorem RowP.depth {L : Nat} {r : PyData} (h : RowP L r) : r.depth ≤ 1 := by
  obtain ⟨xs, rfl, _⟩ := h
  simp [PyData.depth, depth_iL]
theorem RowP.pu {L : Nat} {r : PyData} (h : RowP L r) (hL : L ≤ 4) : Pu 1 54 r := by
  obtain ⟨xs, rfl, h1, h2⟩ := h
  refine (Pu.tup (k := 0) (c := 8) (m := 4) (fun d hd => ?_) (by simp; omega)).mono (Nat.le_refl _) (by decide)
  obtain ⟨x, hx, rfl⟩ := iL_mem hd
  have := h2 x hx
  exact Pu.int (by omega)
theorem sort_ok {L : Nat} (hL : 1 ≤ L) {rows : List PyData} (h : ∀ r ∈ rows, RowP L r) : okSort rows = true := by
  unfold okSort
  simp only [Bool.and_eq_true, decide_eq_true_eq]
  refine ⟨⟨⟨plainAll_of fun d hd => (h d hd).plain, ?_⟩, ?_⟩, Nat.le_trans (depthAll_of (k := 1) fun d hd => (h d hd).depth) (by decide)⟩
  · simp only [alikeL, List.all_eq_true]
    intro d hd e he
    obtain ⟨xs, rfl, _⟩ := h d hd
    obtain ⟨ys, rfl, _⟩ := h e he
    exact alike_iL xs ys
  · simp only [sortableL, Bool.or_eq_true, List.all_eq_true]
    refine .inl fun d hd => ?_
    obtain ⟨xs, rfl, hl, _⟩ := h d hd
    cases xs with
    | nil => simp at hl; omega
    | cons x xs => rfl
noncomputable abbrev bRw : MS := (mSeq (mSet 4 (mL (on1 vTupOf) (mCons (mLc (mItems (mVar 1)) (tgN 5) mYes (mCall m__law_take (mCons (mVar 0) (mCons (mVar 5) mNil))) [5]) mNil))) (mSeq (mIfS (m2B dEq (mCall m__law_take (mCons (mVar 0) (mCons (mC (.int 4)) mNil))) (mC (.int 0))) (mSet 4 (mL (on1 vTupOf) (mCons (mLc (mItems (mVar 1)) (tgN 5) mYes (m2 vSub (mVar 5) (mC (.int 1))) [5]) mNil))) mPass) (mIfS (m2B dNotIn (mVar 4) (mVar 2)) (mApp 2 (mVar 4)) mPass)))
theorem rw_turn (ds : List Int) (ls : List Int) (hp : LabP ls) (rows : List PyData) (hr : ∀ r ∈ rows, RowP ls.length r) (hlen : rows.length < 16777216) (k r c : Sl) (n : Nat) : ∃ rows' r' c' n', bRw [.rf 0, .fr (.tuple (iL ls)), .ow (.list rows), k, r, c] (hd ds n) = .nx [.rf 0, .fr (.tuple (iL ls)), .ow (.list rows'), k, r', c'] (hd ds n') ∧ (∀ r ∈ rows', RowP ls.length r) ∧ rows'.length ≤ rows.length + 1 := by
  obtain ⟨xs, n1, h1, hl, hb⟩ := row_comp ds ls hp.2.2 (.rf 0) (.fr (.tuple (iL ls))) (.ow (.list rows)) k r c rfl rfl hp.2.1 n
  obtain ⟨q, hq, q0, q1⟩ := e_take ds n1 4 (by decide)
  have f1 : mSet 4 (mL (on1 vTupOf) (mCons (mLc (mItems (mVar 1)) (tgN 5) mYes (mCall m__law_take (mCons (mVar 0) (mCons (mVar 5) mNil))) [5]) mNil)) [.rf 0, .fr (.tuple (iL ls)), .ow (.list rows), k, r, c] (hd ds n) = .nx [.rf 0, .fr (.tuple (iL ls)), .ow (.list rows), k, .fr (.tuple (iL xs)), c] (hd ds n1) := by
    rw [mSet_at, mL_at, mCons_at, h1]; simp
  have f2 : ∃ ys : List Int, ys.length = ls.length ∧ (∀ x ∈ ys, 0 ≤ x ∧ x ≤ 60) ∧ (mIfS (m2B dEq (mCall m__law_take (mCons (mVar 0) (mCons (mC (.int 4)) mNil))) (mC (.int 0))) (mSet 4 (mL (on1 vTupOf) (mCons (mLc (mItems (mVar 1)) (tgN 5) mYes (m2 vSub (mVar 5) (mC (.int 1))) [5]) mNil))) mPass) [.rf 0, .fr (.tuple (iL ls)), .ow (.list rows), k, .fr (.tuple (iL xs)), c] (hd ds n1) = .nx [.rf 0, .fr (.tuple (iL ls)), .ow (.list rows), k, .fr (.tuple (iL ys)), c] (hd ds (n1 + 1)) := by
    by_cases e : q = 0
    · subst e
      refine ⟨ls.map fun l => l - 1, by simp, fun x hx => ?_, ?_⟩
      · obtain ⟨l, hm, rfl⟩ := List.mem_map.mp hx
        have := hp.2.2 l hm
        omega
      · have h2 := row_full ls hp.2.2 (.rf 0) (.ow (.list rows)) k (.fr (.tuple (iL xs))) c hp.2.1 (hd ds (n1 + 1))
        simp only [mIfS_at, m2B_at, mCall_at, mCons_at, mVar_at, List.getElem?_cons_zero, bind_ok, mC_at, mNil_at, argL_rf, argL_frz, argL_nil, Option.map_some, hq, optB_at dat_fr dat_fr, dEq_int, decide_true, toS_ok, if_true, mSet_at, mL_at, h2, optL_at, vTupOf_ow, putS_fr]
        simp
    · refine ⟨xs, hl, hb, ?_⟩
      simp [hq, e]
  obtain ⟨ys, yl, yb, f2⟩ := f2
  have yp : RowP ls.length (.tuple (iL ys)) := ⟨ys, rfl, yl, yb⟩
  have hin : dNotIn (.tuple (iL ys)) (.list rows) = some (!(rows.any fun z => PyData.eqv z (.tuple (iL ys)))) := by
    have e : dIn (.tuple (iL ys)) (.list rows) = some (rows.any fun z => PyData.eqv z (.tuple (iL ys))) := by
      show (if (PyData.tuple (iL ys)).plain && PyData.plainAll rows && decide ((PyData.tuple (iL ys)).depth ≤ 60) then some (rows.any fun z => PyData.eqv z (.tuple (iL ys))) else none) = _
      rw [if_pos (by rw [yp.plain, plainAll_of fun d hd => (hr d hd).plain, decide_eq_true (Nat.le_trans yp.depth (by decide))]; rfl)]
    unfold dNotIn
    rw [e]; rfl
  by_cases hany : (rows.any fun z => PyData.eqv z (.tuple (iL ys))) = true
  · refine ⟨rows, .fr (.tuple (iL ys)), c, n1 + 1, (seq_nx f1).trans ((seq_nx f2).trans ?_), hr, by omega⟩
    rw [hany] at hin
    simp [hin]
  · refine ⟨rows ++ [.tuple (iL ys)], .fr (.tuple (iL ys)), c, n1 + 1, (seq_nx f1).trans ((seq_nx f2).trans ?_), fun z hz => (List.mem_append.mp hz).elim (hr z) fun e => by rw [List.mem_singleton.mp e]; exact yp, by simp⟩
    rw [Bool.not_eq_true] at hany
    rw [hany] at hin
    simp [hin, mApp, hlen]
theorem e_rows (ds : List Int) (n : Nat) (ls : List Int) (hp : LabP ls) : ∃ R n', m__law_rows [.rf 0, .fr (.tuple (iL ls))] (hd ds n) = .ok (.fr R) (hd ds n') ∧ RowsP ls.length R := by
  obtain ⟨q, hq, q0, q1⟩ := e_take ds n 6 (by decide)
  obtain ⟨env, S', h1, rows, k, r, c, n', rfl, rfl, hr, hlen⟩ := goFor_inv (f := tgN 3) (b := bRw) (fun rest env S' => ∃ (rows : List PyData) (k r c : Sl) (n' : Nat), env = [.rf 0, .fr (.tuple (iL ls)), .ow (.list rows), k, r, c] ∧ S' = hd ds n' ∧ (∀ r ∈ rows, RowP ls.length r) ∧ rows.length + rest.length ≤ q.toNat)
    (fun d rest env S' ⟨rows, k, r, c, n', he, hS, hr, hlen⟩ => by
      subst he hS
      simp only [List.length_cons] at hlen
      obtain ⟨rows', r', c', n2, h1, h2, h3⟩ := rw_turn ds ls hp rows hr (by omega) (.fr d) r c n'
      exact ⟨[.rf 0, .fr (.tuple (iL ls)), .ow (.list rows), .fr d, r, c], _, _, rfl, .inl h1, rows', _, _, _, n2, rfl, rfl, h2, by omega⟩)
    (rngL 0 q) [.rf 0, .fr (.tuple (iL ls)), .ow (.list []), .un, .un, .un] (hd ds (n + 1)) ⟨[], _, _, _, n + 1, rfl, rfl, by simp, by simp [rngL]⟩
  refine ⟨.tuple (sortD rows), n', ?_, sortD rows, rfl, ?_, fun r hm => hr r ?_⟩
  · have hs : vSorted (.bo 2 (.list rows)) = some (.ow (.list (sortD rows))) := by
      show (if okSort rows then some (Vl.ow (.list (sortD rows))) else none) = _
      rw [if_pos (sort_ok (by have := hp.1; omega) hr)]
    unfold m__law_rows b__law_rows
    rw [mFn_at (np := 2) (show _ = 2 from rfl), seq_nx (e := [.rf 0, .fr (.tuple (iL ls)), .ow (.list []), .un, .un, .un]) (S1 := hd ds n) (by simp [startE, slA, vLst, sz]),
      seq_nx ((mFor_run (mR1_run (S1 := hd ds (n + 1)) (n := q) (by simp [hq]) (okR_int q0 (by omega)))).trans h1)]
    simp [on1, hs, vTupOf]
  · have : (sortD rows).length = rows.length := by unfold sortD; simp
    simp at hlen
    omega
  · unfold sortD at hm
    exact (List.mergeSort_perm rows _).mem_iff.mp hm
end K01
end

section
set_option Elab.async false
set_option linter.all false
set_option maxRecDepth 100000
set_option maxHeartbeats 1000000
namespace K01
open PySem PySem.Spec PyProof.Rows L2 TL PySem.W

/-! ### a task -/
def SideP (L : Nat) (s : PyData) : Prop := ∃ Rs, s = .tuple Rs ∧ 1 ≤ Rs.length ∧ Rs.length ≤ 4 ∧ ∀ R ∈ Rs, RowsP L R
def TaskP (t : PyData) : Prop := ∃ ls w b, t = .tuple [.str "task", .int (ls.length : Nat), .tuple (iL ls), w, b] ∧ LabP ls ∧ SideP ls.length w ∧ SideP ls.length b
theorem side_comp (ds : List Int) (ls : List Int) (hp : LabP ls) (i : Nat) (env0 : En) (he : ∀ d, ∃ e', tgN i env0 d = some e' ∧ e'[0]? = some (.rf 0) ∧ e'[2]? = some (.fr (.tuple (iL ls)))) (its : List PyData) (hi : its.length ≤ 16777216) (n : Nat) :
    ∃ acc n', goLc (tgN i) mYes (mCall m__law_rows (mCons (mVar 0) (mCons (mVar 2) mNil))) env0 its [] (hd ds n) = .ok acc (hd ds n') ∧ acc.length = its.length ∧ ∀ R ∈ acc, RowsP ls.length R := by
  obtain ⟨acc, S', h1, n', rfl, hl, hb⟩ := goLc_inv (f := tgN i) (mt := mYes) (ma := mCall m__law_rows (mCons (mVar 0) (mCons (mVar 2) mNil))) (env := env0)
    (fun rest acc S' => ∃ n' : Nat, S' = hd ds n' ∧ acc.length + rest.length = its.length ∧ ∀ R ∈ acc, RowsP ls.length R) (fun d rest acc S' ⟨n', hS, hl, hb⟩ => by
      subst hS
      obtain ⟨e', h1, h2, h3⟩ := he d
      obtain ⟨R, n2, hR, hRp⟩ := e_rows ds n' ls hp
      simp only [List.length_cons] at hl
      refine ⟨e', hd ds n', .fr R, hd ds n2, R, h1, rfl, ?_, rfl, by omega, n2, rfl, by simp; omega, fun z hz => (List.mem_append.mp hz).elim (hb z) fun e => by rw [List.mem_singleton.mp e]; exact hRp⟩
      simp [h2, h3, hR]) its [] (hd ds n) ⟨n, rfl, by simp, by simp⟩
  exact ⟨acc, n', h1, by simpa using hl, hb⟩
theorem rngL_len {q : Int} (h : 0 ≤ q) : (rngL 0 q).length = q.toNat := by simp [rngL]
theorem e_task (ds : List Int) (n : Nat) : ∃ t n', m__law_task [.rf 0] (hd ds n) = .ok (.fr t) (hd ds n') ∧ TaskP t := by
  obtain ⟨c, hc, c0, c1⟩ := e_take ds n 3 (by decide)
  obtain ⟨ls, n1, hls, hlc, hp⟩ := e_labels ds (n + 1) (2 + c) (by omega) (by omega)
  obtain ⟨q, hq, q0, q1⟩ := e_take ds n1 4 (by decide)
  have hlen : ∀ q : Int, 0 ≤ q → q < 4 → (rngL 0 (1 + q)).length ≤ 16777216 := fun q h1 h2 => by
    rw [rngL_len (by omega)]
    have : (1 + q).toNat ≤ 4 := by omega
    exact Nat.le_trans this (by decide)
  obtain ⟨w, n2, hw, hwl, hwp⟩ := side_comp ds ls hp 5 [.rf 0, .fr (.int (2 + c)), .fr (.tuple (iL ls)), .un, .un, .un, .un] (fun d => ⟨_, rfl, rfl, rfl⟩) (rngL 0 (1 + q)) (hlen q q0 q1) (n1 + 1)
  obtain ⟨q', hq', q0', q1'⟩ := e_take ds n2 4 (by decide)
  obtain ⟨b, n3, hb, hbl, hbp⟩ := side_comp ds ls hp 6 [.rf 0, .fr (.int (2 + c)), .fr (.tuple (iL ls)), .fr (.tuple w), .un, .un, .un] (fun d => ⟨_, rfl, rfl, rfl⟩) (rngL 0 (1 + q')) (hlen q' q0' q1') (n2 + 1)
  have k1 : okR (1 + q) = true := okR_int (by omega) (by omega)
  have k2 : okR (1 + q') = true := okR_int (by omega) (by omega)
  refine ⟨.tuple [.str "task", .int (2 + c), .tuple (iL ls), .tuple w, .tuple b], n3, ?_, ls, .tuple w, .tuple b, by rw [hlc], hp, ⟨w, rfl, ?_, ?_, hwp⟩, ⟨b, rfl, ?_, ?_, hbp⟩⟩
  · simp [m__law_task, mFn, startE, slA, b__law_task, hc, mFrz, hls, hq, vRng1 k1, mLc, wipeE, hw, hq', vRng1 k2, hb, vTup, sz]
  · rw [hwl, rngL_len (by omega)]; omega
  · rw [hwl, rngL_len (by omega)]; omega
  · rw [hbl, rngL_len (by omega)]; omega
  · rw [hbl, rngL_len (by omega)]; omega

/-! ### parts -/
def odB (k c : Nat) (d : PyData) : Bool := okA d && (d.plain || noList d) && decide (d.depth ≤ k) && decide (nz d ≤ c)
theorem Od.of {k c : Nat} {d : PyData} (h : odB k c d = true) : Od k c d := by
  simp only [odB, Bool.and_eq_true, Bool.or_eq_true, decide_eq_true_eq] at h
  exact ⟨h.1.1.1, h.1.1.2, h.1.2, h.2⟩
theorem Od.all {k c : Nat} {L : List PyData} (h : L.all (odB k c) = true) : ∀ d ∈ L, Od k c d := fun d hd => .of (List.all_eq_true.mp h d hd)
def five : PyData → Bool
  | .tuple ds => ds.length == 5
  | _ => false
theorem cut_mem {α : Type} {xs : List α} {lo hi : Option Int} {x : α} (h : x ∈ cutL xs lo hi) : x ∈ xs := by
  unfold cutL at h
  exact List.mem_of_mem_drop (List.mem_of_mem_take h)
theorem cut_len {α : Type} (xs : List α) (lo hi : Option Int) : (cutL xs lo hi).length ≤ xs.length := by
  unfold cutL
  rw [List.length_take, List.length_drop]
  omega
@[simp] theorem vSl_tup (ds : List PyData) (lo hi : Option Int) : vSl (.fr (.tuple ds)) lo hi = some (.fr (.tuple (cutL ds lo hi))) := rfl
theorem vAdd_tup {a b : List PyData} (h : a.length + b.length ≤ 16777216) : vAdd (.fr (.tuple a)) (.fr (.tuple b)) = some (.fr (.tuple (a ++ b))) := by
  show (if sz (a.length + b.length) then some (Vl.fr (.tuple (a ++ b))) else none) = _
  rw [if_pos (show sz (a.length + b.length) = true from decide_eq_true h)]
/-- one of a few, drawn -/
theorem pick {L : List PyData} {r : Int} (h0 : 0 ≤ r) (h : r < L.length) : ∃ x ∈ L, vIx (.ow (.list L)) (.fr (.int r)) = some (.fr x) := by
  obtain ⟨x, h1, h2⟩ := atI_ge (xs := L) h0 h
  exact ⟨x, h2, vIx_lstw h1⟩
def oddL : List PyData := [.none, .bool true, .bool false, .int 5, .int (-1), .str "task", .str "", .tuple [], .list [], .dict [], .dict [(.int 0, .int 1)], .tuple [.tuple []], .list [.list []], .str "2"]
theorem e_odd (ds : List Int) (n : Nat) : ∃ v n', m__law_odd [.rf 0] (hd ds n) = .ok (.fr v) (hd ds n') ∧ Od 2 34 v ∧ five v = false := by
  obtain ⟨r, hr, r0, r1⟩ := e_take ds n 14 (by decide)
  obtain ⟨x, hx, hp⟩ := pick (L := oddL) r0 r1
  refine ⟨x, n + 1, ?_, Od.all (L := oddL) (by decide +kernel) x hx, by
    have h : oddL.all (fun d => !five d) = true := by decide +kernel
    simpa using List.all_eq_true.mp h x hx⟩
  have e : mL vLst (mCons (mC .none) (mCons (mC (.bool true)) (mCons (mC (.bool false)) (mCons (mC (.int 5)) (mCons (m1 vNeg (mC (.int 1))) (mCons (mC (.str "task")) (mCons (mC (.str "")) (mCons (mL vTup mNil) (mCons (mL vLst mNil) (mCons mDct0 (mCons (mDctI 0 1) (mCons (mL vTup (mCons (mL vTup mNil) mNil)) (mCons (mL vLst (mCons (mL vLst mNil) mNil)) (mCons (mC (.str "2")) mNil)))))))))))))) [.rf 0] (hd ds n) = .ok (.ow (.list oddL)) (hd ds n) := rfl
  unfold m__law_odd b__law_odd
  rw [mFn_at (np := 1) (show _ = 1 from rfl)]
  show ((mRet _ [.rf 0] (hd ds n))).fin = _
  rw [mRet_at, m2_at, e]
  simp [hr, hp]
end K01
end

section
set_option Elab.async false
set_option linter.all false
set_option maxRecDepth 100000
set_option maxHeartbeats 1000000
namespace K01
open PySem PySem.Spec PyProof.Rows L2 TL PySem.W

theorem pu_iL {xs : List Int} (h : ∀ x ∈ xs, x.natAbs ≤ 75) : ∀ d ∈ iL xs, Pu 1 20 d := fun d hd => by
  obtain ⟨x, hx, rfl⟩ := iL_mem hd
  exact (Pu.int (h x hx)).mono (by decide) (by decide)
/-- xs[:at] + (o,) + xs[at + 1:] -/
theorem mid_run {i j : Nat} {X : ME} {env : En} {S S' : Sto} {xs : List PyData} {a : Int} {z : Vl} {o : PyData} (hi : env[i]? = some (.fr (.tuple xs))) (hj : env[j]? = some (.fr (.int a))) (hX : X env S = .ok z S') (hz : z.frz = some o) (hx : xs.length ≤ 1000) :
    (m2 vAdd (m2 vAdd (mSl (mVar i) mNone (mPart (mVar j))) (mL vTup (mCons X mNil))) (mSl (mVar i) (mPart (m2 vAdd (mVar j) (mC (.int 1)))) mNone)) env S = .ok (.fr (.tuple (cutL xs none (some a) ++ [o] ++ cutL xs (some (a + 1)) none))) S' := by
  have b1 := cut_len xs none (some a)
  have b2 := cut_len xs (some (a + 1)) none
  have ha1 : vAdd (.fr (.tuple (cutL xs none (some a)))) (.fr (.tuple [o])) = some (.fr (.tuple (cutL xs none (some a) ++ [o]))) := vAdd_tup (by simp only [List.length_cons, List.length_nil]; omega)
  have ha2 : vAdd (.fr (.tuple (cutL xs none (some a) ++ [o]))) (.fr (.tuple (cutL xs (some (a + 1)) none))) = some (.fr (.tuple (cutL xs none (some a) ++ [o] ++ cutL xs (some (a + 1)) none))) := vAdd_tup (by simp only [List.length_append, List.length_cons, List.length_nil]; omega)
  have hv : vTup [z] = some (.fr (.tuple [o])) := by
    cases z <;> first | (cases hz; rfl) | cases hz
  have h1 : mSl (mVar i) mNone (mPart (mVar j)) env S = .ok (.fr (.tuple (cutL xs none (some a)))) S := by simp [mSl, mPart, hi, hj]
  have h2 : mL vTup (mCons X mNil) env S = .ok (.fr (.tuple [o])) S' := by rw [mL_at, mCons_at, hX, bind_ok, mNil_at, bind_ok, bind_ok, optL_at, hv]
  have h3 : mSl (mVar i) (mPart (m2 vAdd (mVar j) (mC (.int 1)))) mNone env S' = .ok (.fr (.tuple (cutL xs (some (a + 1)) none))) S' := by simp [mSl, mPart, hi, hj]
  rw [m2_at, m2_at, h1, bind_ok, h2, bind_ok, opt2_at, ha1, bind_ok, h3, bind_ok, opt2_at, ha2]
def o8 : List PyData := [.int 0, .int 61, .int (-1), .bool true, .str "2", .none, .tuple [.int 2], .int 60]
def o5 : List PyData := [.tuple (iL [16, 16, 16]), .tuple (iL [20, 20, 11]), .tuple (iL [8, 8, 8, 8]), .tuple (iL [60, 67]), .tuple (iL [10, 10, 41])]
theorem e_label_ch (ds : List Int) (n : Nat) (h c w b : PyData) (ls : List Int) (hp : LabP ls) : ∃ z v n', m__law_label_changes [.rf 0, .fr (.tuple [h, c, .tuple (iL ls), w, b])] (hd ds n) = .ok z (hd ds n') ∧ z.frz = some v ∧ Od 2 300 v := by
  have hlab : ∀ d ∈ iL ls, Pu 1 20 d := pu_iL fun x hx => by have := hp.2.2 x hx; omega
  have hlen : (iL ls).length ≤ 4 := by simpa using hp.2.1
  obtain ⟨at', hat, a0, a1⟩ := e_take ds n ls.length (by have := hp.1; omega)
  obtain ⟨r, hr, r0, r1⟩ := e_take ds (n + 1) 8 (by decide)
  obtain ⟨s, hs, s0, s1⟩ := e_take ds (n + 2) 6 (by decide)
  obtain ⟨o, ho, hop⟩ := pick (L := o8) r0 r1
  have oo : Od 1 20 o := Od.all (L := o8) (by decide +kernel) o ho
  have x2 : vIx (.fr (.tuple [h, c, .tuple (iL ls), w, b])) (.fr (.int 2)) = some (.fr (.tuple (iL ls))) := rfl
  generalize hT : PyData.tuple [h, c, .tuple (iL ls), w, b] = T at x2 ⊢
  have f1 : mSet 2 (m2 vIx (mVar 1) (mC (.int 2))) [.rf 0, .fr T, .un, .un, .un, .un] (hd ds n) = .nx [.rf 0, .fr T, .fr (.tuple (iL ls)), .un, .un, .un] (hd ds n) := by simp [x2]
  have f2 : mSet 3 (mCall m__law_take (mCons (mVar 0) (mCons (mL vLen (mCons (mVar 2) mNil)) mNil))) [.rf 0, .fr T, .fr (.tuple (iL ls)), .un, .un, .un] (hd ds n) = .nx [.rf 0, .fr T, .fr (.tuple (iL ls)), .fr (.int at'), .un, .un] (hd ds (n + 1)) := by simp [hat]
  have e8 : ∀ env S, mL vLst (mCons (mC (.int 0)) (mCons (mC (.int 61)) (mCons (m1 vNeg (mC (.int 1))) (mCons (mC (.bool true)) (mCons (mC (.str "2")) (mCons (mC .none) (mCons (mL vTup (mCons (mC (.int 2)) mNil)) (mCons (mC (.int 60)) mNil)))))))) env S = .ok (.ow (.list o8)) S := fun env S => rfl
  have f3 : mSet 4 (m2 vIx (mL vLst (mCons (mC (.int 0)) (mCons (mC (.int 61)) (mCons (m1 vNeg (mC (.int 1))) (mCons (mC (.bool true)) (mCons (mC (.str "2")) (mCons (mC .none) (mCons (mL vTup (mCons (mC (.int 2)) mNil)) (mCons (mC (.int 60)) mNil))))))))) (mCall m__law_take (mCons (mVar 0) (mCons (mC (.int 8)) mNil)))) [.rf 0, .fr T, .fr (.tuple (iL ls)), .fr (.int at'), .un, .un] (hd ds (n + 1)) = .nx [.rf 0, .fr T, .fr (.tuple (iL ls)), .fr (.int at'), .fr o, .un] (hd ds (n + 2)) := by
    rw [mSet_at, m2_at, e8]
    simp [hr, hop]
  have f4 : mSet 5 (mCall m__law_take (mCons (mVar 0) (mCons (mC (.int 6)) mNil))) [.rf 0, .fr T, .fr (.tuple (iL ls)), .fr (.int at'), .fr o, .un] (hd ds (n + 2)) = .nx [.rf 0, .fr T, .fr (.tuple (iL ls)), .fr (.int at'), .fr o, .fr (.int s)] (hd ds (n + 3)) := by simp [hs]
  unfold m__law_label_changes b__law_label_changes
  rw [mFn_at (np := 2) (show _ = 2 from rfl)]
  show ∃ z v n', (mSeq _ _ [.rf 0, .fr T, .un, .un, .un, .un] (hd ds n)).fin = _ ∧ _
  rw [seq_nx f1, seq_nx f2, seq_nx f3, seq_nx f4]
  by_cases c0 : s = 0
  · subst c0
    refine ⟨.ow (.list (iL ls)), .list (iL ls), n + 3, ?_, rfl, (Od.lst hlab hlen).mono (by decide) (by decide)⟩
    rw [seq_rt (v := .ow (.list (iL ls))) (S1 := hd ds (n + 3)) (by simp)]
    rfl
  rw [seq_nx (e := [.rf 0, .fr T, .fr (.tuple (iL ls)), .fr (.int at'), .fr o, .fr (.int s)]) (S1 := hd ds (n + 3)) (by simp [c0])]
  by_cases c1 : s = 1
  · subst c1
    refine ⟨.fr (.tuple (cutL (iL ls) none (some (-1)))), _, n + 3, ?_, rfl, (Pu.tup (m := 4) (fun d hd => hlab d (cut_mem hd)) (Nat.le_trans (cut_len _ _ _) hlen)).od.mono (by decide) (by decide)⟩
    rw [seq_rt (v := .fr (.tuple (cutL (iL ls) none (some (-1))))) (S1 := hd ds (n + 3)) (by simp [mSl, mPart])]
    rfl
  rw [seq_nx (e := [.rf 0, .fr T, .fr (.tuple (iL ls)), .fr (.int at'), .fr o, .fr (.int s)]) (S1 := hd ds (n + 3)) (by simp [c1])]
  by_cases c2 : s = 2
  · subst c2
    have ha : vAdd (.fr (.tuple (iL ls))) (.fr (.tuple [.int 2])) = some (.fr (.tuple (iL ls ++ [.int 2]))) := vAdd_tup (by simp; have := hp.2.1; omega)
    refine ⟨.fr (.tuple (iL ls ++ [.int 2])), _, n + 3, ?_, rfl, (Pu.tup (m := 5) (k := 1) (c := 20) (fun d hd => (List.mem_append.mp hd).elim (hlab d) fun e => by rw [List.mem_singleton.mp e]; exact (Pu.int (by decide)).mono (by decide) (by decide)) (by simp; exact hp.2.1)).od.mono (by decide) (by decide)⟩
    rw [seq_rt (v := .fr (.tuple (iL ls ++ [.int 2]))) (S1 := hd ds (n + 3)) (by simp [vTup, sz, ha])]
    rfl
  rw [seq_nx (e := [.rf 0, .fr T, .fr (.tuple (iL ls)), .fr (.int at'), .fr o, .fr (.int s)]) (S1 := hd ds (n + 3)) (by simp [c2])]
  by_cases c3 : s = 3
  · subst c3
    obtain ⟨q, hq, q0, q1⟩ := e_take ds (n + 3) 5 (by decide)
    obtain ⟨x, hx, hxp⟩ := pick (L := o5) q0 q1
    refine ⟨.fr x, x, n + 4, ?_, rfl, (Od.all (L := o5) (k := 1) (c := 44) (by decide +kernel) x hx).mono (by decide) (by decide)⟩
    have e5 : ∀ env S, mL vLst (mCons (mL vTup (mCons (mC (.int 16)) (mCons (mC (.int 16)) (mCons (mC (.int 16)) mNil)))) (mCons (mL vTup (mCons (mC (.int 20)) (mCons (mC (.int 20)) (mCons (mC (.int 11)) mNil)))) (mCons (mL vTup (mCons (mC (.int 8)) (mCons (mC (.int 8)) (mCons (mC (.int 8)) (mCons (mC (.int 8)) mNil))))) (mCons (mL vTup (mCons (mC (.int 60)) (mCons (mC (.int 67)) mNil))) (mCons (mL vTup (mCons (mC (.int 10)) (mCons (mC (.int 10)) (mCons (mC (.int 41)) mNil)))) mNil))))) env S = .ok (.ow (.list o5)) S := fun env S => rfl
    rw [seq_rt (v := .fr x) (S1 := hd ds (n + 4)) (by rw [mIfS_at]; simp only [m2B_at, mVar_at, List.getElem?_cons_succ, List.getElem?_cons_zero, bind_ok, mC_at, optB_at dat_fr dat_fr, dEq_int, decide_true, toS_ok, if_true, mRet_at, m2_at, e5]; simp [hq, hxp])]
    rfl
  rw [seq_nx (e := [.rf 0, .fr T, .fr (.tuple (iL ls)), .fr (.int at'), .fr o, .fr (.int s)]) (S1 := hd ds (n + 3)) (by simp [c3])]
  have run := mid_run (i := 2) (j := 3) (X := mVar 4) (env := [.rf 0, .fr T, .fr (.tuple (iL ls)), .fr (.int at'), .fr o, .fr (.int s)]) (S := hd ds (n + 3)) rfl rfl rfl (z := .fr o) rfl (by have := hp.2.1; simp; omega)
  have b1 := cut_len (iL ls) none (some at')
  have b2 := cut_len (iL ls) (some (at' + 1)) none
  refine ⟨.fr (.tuple (cutL (iL ls) none (some at') ++ [o] ++ cutL (iL ls) (some (at' + 1)) none)), .tuple (cutL (iL ls) none (some at') ++ [o] ++ cutL (iL ls) (some (at' + 1)) none), n + 3, ?_, rfl, (Od.mid (xs := cutL (iL ls) none (some at')) (ys := cutL (iL ls) (some (at' + 1)) none) (m := 9) (fun d hd => hlab d (cut_mem hd)) (fun d hd => hlab d (cut_mem hd)) oo (by omega)).mono (by decide) (by decide)⟩
  rw [mRet_at, run]
  rfl
end K01
end

section
set_option Elab.async false
set_option linter.all false
set_option maxRecDepth 100000
set_option maxHeartbeats 1000000
namespace K01
open PySem PySem.Spec PyProof.Rows L2 TL PySem.W

theorem eqv_int (z i : Int) : PyData.eqv (.int z) (.int i) = decide (z = i) := by
  rw [Bool.eq_iff_iff]; simp [PyData.eqv]
theorem dIn_iL (i : Int) (xs : List Int) : dIn (.int i) (.tuple (iL xs)) = some (decide (i ∈ xs)) := by
  have e : dIn (.int i) (.tuple (iL xs)) = some ((iL xs).any fun z => PyData.eqv z (.int i)) := by
    show (if (PyData.int i).plain && PyData.plainAll (iL xs) && decide ((PyData.int i).depth ≤ 60) then _ else _) = _
    rw [if_pos (by rw [plain_iL]; rfl)]
  rw [e]
  congr 1
  rw [Bool.eq_iff_iff]
  simp only [List.any_eq_true, iL, List.mem_map, decide_eq_true_eq]
  constructor
  · rintro ⟨d, ⟨x, hx, rfl⟩, h⟩
    rw [eqv_int, decide_eq_true_eq] at h
    exact h ▸ hx
  · intro h
    exact ⟨.int i, ⟨i, h, rfl⟩, by rw [eqv_int, decide_eq_true_eq]⟩
theorem intsOf_iL : ∀ xs : List Int, intsOf (iL xs) = some xs
  | [] => rfl
  | x :: xs => by
    show (intsOf (iL xs)).map (x :: ·) = _
    rw [intsOf_iL xs]; rfl
theorem vIndex_iL {i : Int} {xs : List Int} (h : i ∈ xs) : on2 vIndex [.fr (.tuple (iL xs)), .fr (.int i)] = some (.fr (.int (xs.idxOf i : Nat))) := by
  show (match intsOf (iL xs) with
    | some ns => if i ∈ ns then some (Vl.fr (.int (ns.idxOf i : Nat))) else none
    | none => none) = _
  rw [intsOf_iL]
  exact if_pos h
def r8 (lab : Int) : List PyData := [.int lab, .int (-1), .bool true, .bool false, .none, .str "0", .tuple [.int 0], .int (lab - 1)]
theorem r8_od {lab : Int} (h1 : 1 ≤ lab) (h2 : lab ≤ 60) : ∀ d ∈ r8 lab, Od 1 20 d := by
  intro d hd
  simp only [r8, List.mem_cons, List.not_mem_nil, or_false] at hd
  rcases hd with rfl | rfl | rfl | rfl | rfl | rfl | rfl | rfl
  · exact ((Pu.int (by omega)).mono (by decide) (by decide)).od
  · exact .of (by decide +kernel)
  · exact .of (by decide +kernel)
  · exact .of (by decide +kernel)
  · exact .of (by decide +kernel)
  · exact .of (by decide +kernel)
  · exact .of (by decide +kernel)
  · exact ((Pu.int (by omega)).mono (by decide) (by decide)).od
theorem e_row_ch (ds : List Int) (n : Nat) (ls xs : List Int) (hp : LabP ls) (hx : xs.length = ls.length) (hb : ∀ x ∈ xs, 0 ≤ x ∧ x ≤ 60) : ∃ z v n', m__law_row_changes [.rf 0, .fr (.tuple (iL xs)), .fr (.tuple (iL ls))] (hd ds n) = .ok z (hd ds n') ∧ z.frz = some v ∧ Od 2 300 v := by
  have hlab : ∀ d ∈ iL xs, Pu 1 20 d := pu_iL fun x hm => by have := hb x hm; omega
  have hlen : (iL xs).length ≤ 4 := by simpa [hx] using hp.2.1
  obtain ⟨at', hat, a0, a1⟩ := e_take ds n xs.length (by have := hp.1; omega)
  obtain ⟨ai, rfl⟩ := Int.eq_ofNat_of_zero_le a0
  have hai : ai < ls.length := by omega
  obtain ⟨r, hr, r0, r1⟩ := e_take ds (n + 1) 8 (by decide)
  obtain ⟨s, hs, s0, s1⟩ := e_take ds (n + 2) 6 (by decide)
  have hlb := hp.2.2 ls[ai] (List.getElem_mem _)
  obtain ⟨o, ho, hop⟩ := pick (L := r8 ls[ai]) r0 r1
  have oo : Od 1 20 o := r8_od hlb.1 hlb.2 o ho
  have xl : vIx (.fr (.tuple (iL ls))) (.fr (.int (ai : Nat))) = some (.fr (.int ls[ai])) := vIx_tup (iL_at hai)
  have f2 : mSet 3 (mCall m__law_take (mCons (mVar 0) (mCons (mL vLen (mCons (mVar 1) mNil)) mNil))) [.rf 0, .fr (.tuple (iL xs)), .fr (.tuple (iL ls)), .un, .un, .un] (hd ds n) = .nx [.rf 0, .fr (.tuple (iL xs)), .fr (.tuple (iL ls)), .fr (.int (ai : Nat)), .un, .un] (hd ds (n + 1)) := by
    have hat' : m__law_take [.rf 0, .fr (.int (xs.length : Nat))] (hd ds n) = .ok (.fr (.int (ai : Nat))) (hd ds (n + 1)) := hat
    simp [hat']
  have e8 : mL vLst (mCons (m2 vIx (mVar 2) (mVar 3)) (mCons (m1 vNeg (mC (.int 1))) (mCons (mC (.bool true)) (mCons (mC (.bool false)) (mCons (mC .none) (mCons (mC (.str "0")) (mCons (mL vTup (mCons (mC (.int 0)) mNil)) (mCons (m2 vSub (m2 vIx (mVar 2) (mVar 3)) (mC (.int 1))) mNil)))))))) [.rf 0, .fr (.tuple (iL xs)), .fr (.tuple (iL ls)), .fr (.int (ai : Nat)), .un, .un] (hd ds (n + 1)) = .ok (.ow (.list (r8 ls[ai]))) (hd ds (n + 1)) := by
    simp [xl, vTup, sz, vLst, r8]
  have f3 : mSet 4 (m2 vIx (mL vLst (mCons (m2 vIx (mVar 2) (mVar 3)) (mCons (m1 vNeg (mC (.int 1))) (mCons (mC (.bool true)) (mCons (mC (.bool false)) (mCons (mC .none) (mCons (mC (.str "0")) (mCons (mL vTup (mCons (mC (.int 0)) mNil)) (mCons (m2 vSub (m2 vIx (mVar 2) (mVar 3)) (mC (.int 1))) mNil))))))))) (mCall m__law_take (mCons (mVar 0) (mCons (mC (.int 8)) mNil)))) [.rf 0, .fr (.tuple (iL xs)), .fr (.tuple (iL ls)), .fr (.int (ai : Nat)), .un, .un] (hd ds (n + 1)) = .nx [.rf 0, .fr (.tuple (iL xs)), .fr (.tuple (iL ls)), .fr (.int (ai : Nat)), .fr o, .un] (hd ds (n + 2)) := by
    rw [mSet_at, m2_at, e8]
    simp [hr, hop]
  have f4 : mSet 5 (mCall m__law_take (mCons (mVar 0) (mCons (mC (.int 6)) mNil))) [.rf 0, .fr (.tuple (iL xs)), .fr (.tuple (iL ls)), .fr (.int (ai : Nat)), .fr o, .un] (hd ds (n + 2)) = .nx [.rf 0, .fr (.tuple (iL xs)), .fr (.tuple (iL ls)), .fr (.int (ai : Nat)), .fr o, .fr (.int s)] (hd ds (n + 3)) := by simp [hs]
  unfold m__law_row_changes b__law_row_changes
  rw [mFn_at (np := 3) (show _ = 3 from rfl)]
  show ∃ z v n', (mSeq _ _ [.rf 0, .fr (.tuple (iL xs)), .fr (.tuple (iL ls)), .un, .un, .un] (hd ds n)).fin = _ ∧ _
  rw [seq_nx f2, seq_nx f3, seq_nx f4]
  by_cases c0 : s = 0
  · subst c0
    refine ⟨.ow (.list (iL xs)), .list (iL xs), n + 3, ?_, rfl, (Od.lst hlab hlen).mono (by decide) (by decide)⟩
    rw [seq_rt (v := .ow (.list (iL xs))) (S1 := hd ds (n + 3)) (by simp)]
    rfl
  rw [seq_nx (e := [.rf 0, .fr (.tuple (iL xs)), .fr (.tuple (iL ls)), .fr (.int (ai : Nat)), .fr o, .fr (.int s)]) (S1 := hd ds (n + 3)) (by simp [c0])]
  by_cases c1 : s = 1
  · subst c1
    refine ⟨.fr (.tuple (cutL (iL xs) none (some (-1)))), _, n + 3, ?_, rfl, (Pu.tup (m := 4) (fun d hd => hlab d (cut_mem hd)) (Nat.le_trans (cut_len _ _ _) hlen)).od.mono (by decide) (by decide)⟩
    rw [seq_rt (v := .fr (.tuple (cutL (iL xs) none (some (-1))))) (S1 := hd ds (n + 3)) (by simp [mSl, mPart])]
    rfl
  rw [seq_nx (e := [.rf 0, .fr (.tuple (iL xs)), .fr (.tuple (iL ls)), .fr (.int (ai : Nat)), .fr o, .fr (.int s)]) (S1 := hd ds (n + 3)) (by simp [c1])]
  by_cases c2 : s = 2
  · subst c2
    have ha : vAdd (.fr (.tuple (iL xs))) (.fr (.tuple [.int 0])) = some (.fr (.tuple (iL xs ++ [.int 0]))) := vAdd_tup (by simp only [List.length_cons, List.length_nil]; omega)
    refine ⟨.fr (.tuple (iL xs ++ [.int 0])), _, n + 3, ?_, rfl, (Pu.tup (m := 5) (k := 1) (c := 20) (fun d hd => (List.mem_append.mp hd).elim (hlab d) fun e => by rw [List.mem_singleton.mp e]; exact (Pu.int (by decide)).mono (by decide) (by decide)) (by simp only [List.length_append, List.length_cons, List.length_nil]; omega)).od.mono (by decide) (by decide)⟩
    rw [seq_rt (v := .fr (.tuple (iL xs ++ [.int 0]))) (S1 := hd ds (n + 3)) (by simp [vTup, sz, ha])]
    rfl
  rw [seq_nx (e := [.rf 0, .fr (.tuple (iL xs)), .fr (.tuple (iL ls)), .fr (.int (ai : Nat)), .fr o, .fr (.int s)]) (S1 := hd ds (n + 3)) (by simp [c2])]
  -- two steps that may change the place and the other one
  have fin : ∀ (a : Int) (q : PyData), Od 1 20 q → ∃ z v n', (mRet (m2 vAdd (m2 vAdd (mSl (mVar 1) mNone (mPart (mVar 3))) (mL vTup (mCons (mVar 4) mNil))) (mSl (mVar 1) (mPart (m2 vAdd (mVar 3) (mC (.int 1)))) mNone)) [.rf 0, .fr (.tuple (iL xs)), .fr (.tuple (iL ls)), .fr (.int a), .fr q, .fr (.int s)] (hd ds (n + 3))).fin = .ok z (hd ds n') ∧ z.frz = some v ∧ Od 2 300 v := fun a q hq => by
    have run := mid_run (i := 1) (j := 3) (X := mVar 4) (env := [.rf 0, .fr (.tuple (iL xs)), .fr (.tuple (iL ls)), .fr (.int a), .fr q, .fr (.int s)]) (S := hd ds (n + 3)) rfl rfl rfl (z := .fr q) rfl (by omega)
    have b1 := cut_len (iL xs) none (some a)
    have b2 := cut_len (iL xs) (some (a + 1)) none
    refine ⟨.fr (.tuple (cutL (iL xs) none (some a) ++ [q] ++ cutL (iL xs) (some (a + 1)) none)), .tuple (cutL (iL xs) none (some a) ++ [q] ++ cutL (iL xs) (some (a + 1)) none), n + 3, ?_, rfl, (Od.mid (xs := cutL (iL xs) none (some a)) (ys := cutL (iL xs) (some (a + 1)) none) (m := 9) (fun d hd => hlab d (cut_mem hd)) (fun d hd => hlab d (cut_mem hd)) hq (by omega)).mono (by decide) (by decide)⟩
    rw [mRet_at, run]
    rfl
  have step : ∀ (kk i : Int) (bb : Bool) (a : Int) (q : PyData), Od 1 20 q → ∃ a' q', Od 1 20 q' ∧ (mIfS (mAnd (m2B dEq (mVar 5) (mC (.int kk))) (m2B dIn (mC (.int i)) (mVar 1))) (mSeq (mSet 3 (mMeth "tuple" (on2 vIndex) (mVar 1) (mCons (mC (.int i)) mNil))) (mSet 4 (mC (.bool bb)))) mPass) [.rf 0, .fr (.tuple (iL xs)), .fr (.tuple (iL ls)), .fr (.int a), .fr q, .fr (.int s)] (hd ds (n + 3)) = .nx [.rf 0, .fr (.tuple (iL xs)), .fr (.tuple (iL ls)), .fr (.int a'), .fr q', .fr (.int s)] (hd ds (n + 3)) := fun kk i bb a q hq => by
    by_cases hk : s = kk
    · by_cases hi : i ∈ xs
      · refine ⟨(xs.idxOf i : Nat), .bool bb, .of (by cases bb <;> decide +kernel), ?_⟩
        have it : isT "tuple" (.fr (.tuple (iL xs))) = true := rfl
        simp [hk, dIn_iL, hi, mMeth, it, vIndex_iL hi]
      · exact ⟨a, q, hq, by simp [hk, dIn_iL, hi]⟩
    · exact ⟨a, q, hq, by simp [hk]⟩
  obtain ⟨a3, q3, h3, g3⟩ := step 3 1 true (ai : Nat) o oo
  obtain ⟨a4, q4, h4, g4⟩ := step 4 0 false a3 q3 h3
  rw [seq_nx g3, seq_nx g4]
  exact fin a4 q4 h4
end K01
end

section
set_option Elab.async false
set_option linter.all false
set_option maxRecDepth 100000
set_option maxHeartbeats 1000000
namespace K01
open PySem PySem.Spec PyProof.Rows L2 TL PySem.W

theorem RowsP.pu {L : Nat} {R : PyData} (h : RowsP L R) (hL : L ≤ 4) : Pu 2 284 R := by
  obtain ⟨rs, rfl, h1, h2⟩ := h
  exact (Pu.tup (k := 1) (c := 54) (m := 5) (fun d hd => (h2 d hd).pu hL) h1).mono (by decide) (by decide)
theorem SideP.pu {L : Nat} {s : PyData} (h : SideP L s) (hL : L ≤ 4) : Pu 3 1148 s := by
  obtain ⟨rs, rfl, _, h1, h2⟩ := h
  exact (Pu.tup (k := 2) (c := 284) (m := 4) (fun d hd => (h2 d hd).pu hL) h1).mono (by decide) (by decide)
theorem go_zero (env : En) (hl : 6 < env.length) : ∀ (its acc : List PyData) (S : Sto), acc.length + its.length ≤ 1000 → (∀ d ∈ acc, d = .int 0) → ∃ acc', goLc (tgN 6) mYes (mC (.int 0)) env its acc S = .ok acc' S ∧ acc'.length = acc.length + its.length ∧ ∀ d ∈ acc', d = .int 0
  | [], acc, S, _, h => ⟨acc, rfl, by simp, h⟩
  | d :: its, acc, S, hn, h => by
    simp only [List.length_cons] at hn
    obtain ⟨acc', h1, h2, h3⟩ := go_zero env hl its (acc ++ [.int 0]) S (by simp; omega) (fun e he => (List.mem_append.mp he).elim (h e) fun z => List.mem_singleton.mp z)
    refine ⟨acc', ?_, by rw [h2]; simp; omega, h3⟩
    unfold goLc
    have ht : tgN 6 env d = some (env.set 6 (.fr d)) := if_pos hl
    rw [ht]
    show (if acc.length < 16777216 then _ else _) = _
    rw [if_pos (by omega)]
    exact h1
theorem go_rev (rs : List PyData) (env : En) (he : ∀ d, ∃ e', tgN 5 env d = some e' ∧ e'[1]? = some (.fr (.tuple rs)) ∧ e'[5]? = some (.fr d)) (S : Sto) (hrs : rs.length ≤ 1000) : ∀ (m i : Nat) (acc : List PyData), i + m = rs.length → acc.length = i → (∀ d ∈ acc, d ∈ rs) →
    ∃ acc', goLc (tgN 5) mYes (m2 vIx (mVar 1) (m2 vSub (m2 vSub (mL vLen (mCons (mVar 1) mNil)) (mC (.int 1))) (mVar 5))) env ((List.range' i m).map fun j => PyData.int (j : Nat)) acc S = .ok acc' S ∧ acc'.length = rs.length ∧ ∀ d ∈ acc', d ∈ rs
  | 0, i, acc, h1, h2, h => ⟨acc, rfl, by omega, h⟩
  | m + 1, i, acc, h1, h2, h => by
    obtain ⟨e', g1, g2, g3⟩ := he (.int (i : Nat))
    have hlt : rs.length - 1 - i < rs.length := by omega
    have hx : vIx (.fr (.tuple rs)) (.fr (.int ((rs.length : Int) - 1 - (i : Nat)))) = some (.fr rs[rs.length - 1 - i]) := by
      rw [show (rs.length : Int) - 1 - (i : Nat) = ((rs.length - 1 - i : Nat) : Int) by omega]
      exact vIx_tup (atI_at hlt)
    obtain ⟨acc', q1, q2, q3⟩ := go_rev rs env he S hrs m (i + 1) (acc ++ [rs[rs.length - 1 - i]]) (by omega) (by simp; omega) (fun e hm => (List.mem_append.mp hm).elim (h e) fun z => by rw [List.mem_singleton.mp z]; exact List.getElem_mem _)
    refine ⟨acc', ?_, q2, q3⟩
    rw [List.range'_succ, List.map_cons]
    unfold goLc
    rw [g1]
    have hm : (m2 vIx (mVar 1) (m2 vSub (m2 vSub (mL vLen (mCons (mVar 1) mNil)) (mC (.int 1))) (mVar 5))) e' S = .ok (.fr rs[rs.length - 1 - i]) S := by simp [g2, g3, hx]
    show (match (m2 vIx (mVar 1) (m2 vSub (m2 vSub (mL vLen (mCons (mVar 1) mNil)) (mC (.int 1))) (mVar 5))) e' S with
      | .ok v S2 => _
      | _ => _) = _
    rw [hm]
    show (if acc.length < 16777216 then _ else _) = _
    rw [if_pos (by omega)]
    exact q1
theorem e_rows_ch (ds : List Int) (n : Nat) (ls : List Int) (hp : LabP ls) (R : PyData) (hR : RowsP ls.length R) : ∃ z v n', m__law_rows_changes [.rf 0, .fr R, .fr (.tuple (iL ls))] (hd ds n) = .ok z (hd ds n') ∧ z.frz = some v ∧ Od 3 3400 v := by
  obtain ⟨rs, rfl, h5, hrs⟩ := hR
  have hpu : ∀ d ∈ rs, Pu 1 54 d := fun d hd => (hrs d hd).pu hp.2.1
  have hpu2 : ∀ d ∈ rs, Pu 2 300 d := fun d hd => (hpu d hd).mono (by decide) (by decide)
  obtain ⟨s, hs, s0, s1⟩ := e_take ds n 6 (by decide)
  have f1 : mSet 3 (mCall m__law_take (mCons (mVar 0) (mCons (mC (.int 6)) mNil))) [.rf 0, .fr (.tuple rs), .fr (.tuple (iL ls)), .un, .un, .un, .un] (hd ds n) = .nx [.rf 0, .fr (.tuple rs), .fr (.tuple (iL ls)), .fr (.int s), .un, .un, .un] (hd ds (n + 1)) := by simp [hs]
  unfold m__law_rows_changes b__law_rows_changes
  rw [mFn_at (np := 3) (show _ = 3 from rfl)]
  show ∃ z v n', (mSeq _ _ [.rf 0, .fr (.tuple rs), .fr (.tuple (iL ls)), .un, .un, .un, .un] (hd ds n)).fin = _ ∧ _
  rw [seq_nx f1]
  by_cases c0 : s = 0
  · subst c0
    refine ⟨.ow (.list rs), .list rs, n + 1, ?_, rfl, (Od.lst hpu h5).mono (by decide) (by decide)⟩
    rw [seq_rt (v := .ow (.list rs)) (S1 := hd ds (n + 1)) (by simp)]
    rfl
  rw [seq_nx (e := [.rf 0, .fr (.tuple rs), .fr (.tuple (iL ls)), .fr (.int s), .un, .un, .un]) (S1 := hd ds (n + 1)) (by simp [c0])]
  by_cases c1 : s = 1
  · subst c1
    obtain ⟨v, n', hv, hod, _⟩ := e_odd ds (n + 1)
    refine ⟨.fr v, v, n', ?_, rfl, hod.mono (by decide) (by decide)⟩
    rw [seq_rt (v := .fr v) (S1 := hd ds n') (by simp [hv])]
    rfl
  rw [seq_nx (e := [.rf 0, .fr (.tuple rs), .fr (.tuple (iL ls)), .fr (.int s), .un, .un, .un]) (S1 := hd ds (n + 1)) (by simp [c1])]
  by_cases ce : rs.length = 0
  · have er : rs = [] := List.length_eq_zero_iff.mp ce
    subst er
    obtain ⟨acc, ha, hal, hz⟩ := go_zero [.rf 0, .fr (.tuple []), .fr (.tuple (iL ls)), .fr (.int s), .un, .un, .un] (by simp) (iL ls) [] (hd ds (n + 1)) (by have := hp.2.1; simp; omega) (by simp)
    have hacc : Pu 1 54 (.tuple acc) := (Pu.tup (k := 0) (c := 8) (m := 4) (fun d hd => by rw [hz d hd]; exact Pu.int (by decide)) (by rw [hal]; simpa using hp.2.1)).mono (by decide) (by decide)
    have hv : vAdd (.fr (.tuple [.tuple acc])) (.fr (.tuple [])) = some (.fr (.tuple ([.tuple acc] ++ []))) := vAdd_tup (by simp)
    refine ⟨.fr (.tuple [.tuple acc]), _, n + 1, ?_, rfl, (Pu.tup (m := 1) (k := 1) (c := 54) (fun d hd => by rw [List.mem_singleton.mp hd]; exact hacc) (by simp)).od.mono (by decide) (by decide)⟩
    rw [seq_rt (v := .fr (.tuple [.tuple acc])) (S1 := hd ds (n + 1)) (by simp [mLc, vItems, wipeE, ha, vTup, sz, hv])]
    rfl
  have ce' : ¬ ((rs.length : Int) = 0) := by omega
  rw [seq_nx (e := [.rf 0, .fr (.tuple rs), .fr (.tuple (iL ls)), .fr (.int s), .un, .un, .un]) (S1 := hd ds (n + 1)) (by simp [ce])]
  obtain ⟨a, ha, a0, a1⟩ := e_take ds (n + 1) rs.length (by omega)
  obtain ⟨ai, rfl⟩ := Int.eq_ofNat_of_zero_le a0
  have hai : ai < rs.length := by omega
  have ha' : m__law_take [.rf 0, .fr (.int (rs.length : Nat))] (hd ds (n + 1)) = .ok (.fr (.int (ai : Nat))) (hd ds (n + 2)) := ha
  have xa : vIx (.fr (.tuple rs)) (.fr (.int (ai : Nat))) = some (.fr rs[ai]) := vIx_tup (atI_at hai)
  rw [seq_nx (e := [.rf 0, .fr (.tuple rs), .fr (.tuple (iL ls)), .fr (.int s), .fr (.int (ai : Nat)), .un, .un]) (S1 := hd ds (n + 2)) (by simp [ha'])]
  by_cases c2 : s = 2
  · subst c2
    have b1 := cut_len rs none (some (ai : Nat))
    have b2 := cut_len rs (some (ai : Nat)) none
    have v1 : vAdd (.fr (.tuple (cutL rs none (some (ai : Nat))))) (.fr (.tuple [rs[ai]])) = some (.fr (.tuple (cutL rs none (some (ai : Nat)) ++ [rs[ai]]))) := vAdd_tup (by simp only [List.length_cons, List.length_nil]; omega)
    have v2 : vAdd (.fr (.tuple (cutL rs none (some (ai : Nat)) ++ [rs[ai]]))) (.fr (.tuple (cutL rs (some (ai : Nat)) none))) = some (.fr (.tuple (cutL rs none (some (ai : Nat)) ++ [rs[ai]] ++ cutL rs (some (ai : Nat)) none))) := vAdd_tup (by simp only [List.length_append, List.length_cons, List.length_nil]; omega)
    refine ⟨.fr (.tuple (cutL rs none (some (ai : Nat)) ++ [rs[ai]] ++ cutL rs (some (ai : Nat)) none)), _, n + 2, ?_, rfl, (Od.mid (xs := cutL rs none (some (ai : Nat))) (ys := cutL rs (some (ai : Nat)) none) (m := 11) (fun d hd => hpu d (cut_mem hd)) (fun d hd => hpu d (cut_mem hd)) (hpu _ (List.getElem_mem hai)).od (by omega)).mono (by decide) (by decide)⟩
    rw [seq_rt (v := .fr (.tuple (cutL rs none (some (ai : Nat)) ++ [rs[ai]] ++ cutL rs (some (ai : Nat)) none))) (S1 := hd ds (n + 2)) (by
      have w1 : vTup [.fr rs[ai]] = some (.fr (.tuple [rs[ai]])) := rfl
      simp only [mIfS_at, m2B_at, mVar_at, List.getElem?_cons_succ, List.getElem?_cons_zero, bind_ok, mC_at, optB_at dat_fr dat_fr, dEq_int, decide_true, toS_ok, if_true, mRet_at, m2_at, mSl, mPart, mNone_at, dat_fr, vSl_tup, mL_at, mCons_at, mNil_at, opt2_at, xa, optL_at, w1, v1, v2, retV_fr])]
    rfl
  rw [seq_nx (e := [.rf 0, .fr (.tuple rs), .fr (.tuple (iL ls)), .fr (.int s), .fr (.int (ai : Nat)), .un, .un]) (S1 := hd ds (n + 2)) (by simp [c2])]
  by_cases c3 : s = 3
  · subst c3
    obtain ⟨acc, hac, hal, hm⟩ := go_rev rs [.rf 0, .fr (.tuple rs), .fr (.tuple (iL ls)), .fr (.int 3), .fr (.int (ai : Nat)), .un, .un] (fun d => ⟨_, rfl, rfl, rfl⟩) (hd ds (n + 2)) (by omega) rs.length 0 [] (by omega) rfl (by simp)
    have hk : okR (rs.length : Int) = true := okR_nat (by omega)
    refine ⟨.fr (.tuple acc), _, n + 2, ?_, rfl, (Pu.tup (m := 5) (k := 1) (c := 54) (fun d hd => hpu d (hm d hd)) (by omega)).od.mono (by decide) (by decide)⟩
    have hlc : mLc (mR1 (mL vLen (mCons (mVar 1) mNil))) (tgN 5) mYes (m2 vIx (mVar 1) (m2 vSub (m2 vSub (mL vLen (mCons (mVar 1) mNil)) (mC (.int 1))) (mVar 5))) [5] [.rf 0, .fr (.tuple rs), .fr (.tuple (iL ls)), .fr (.int 3), .fr (.int (ai : Nat)), .un, .un] (hd ds (n + 2)) = .ok (.ow (.list acc)) (hd ds (n + 2)) := by
      show (mR1 _ _ _).bind _ = _
      rw [mR1_run (S1 := hd ds (n + 2)) (n := (rs.length : Int)) (by simp) hk, bind_ok, rngL0]
      show (goLc _ _ _ [.rf 0, .fr (.tuple rs), .fr (.tuple (iL ls)), .fr (.int 3), .fr (.int (ai : Nat)), .un, .un] _ _ _).bind _ = _
      rw [hac]; rfl
    rw [seq_rt (v := .fr (.tuple acc)) (S1 := hd ds (n + 2)) (by rw [mIfS_at]; simp only [m2B_at, mVar_at, List.getElem?_cons_succ, List.getElem?_cons_zero, bind_ok, mC_at, optB_at dat_fr dat_fr, dEq_int, decide_true, toS_ok, if_true, mRet_at, mL_at, mCons_at, hlc]; simp)]
    rfl
  rw [seq_nx (e := [.rf 0, .fr (.tuple rs), .fr (.tuple (iL ls)), .fr (.int s), .fr (.int (ai : Nat)), .un, .un]) (S1 := hd ds (n + 2)) (by simp [c3])]
  obtain ⟨xs, hxe, hxl, hxb⟩ := hrs _ (List.getElem_mem hai)
  obtain ⟨z, v, n', hz, hfz, hod⟩ := e_row_ch ds (n + 2) ls xs hp hxl hxb
  have hX : mCall m__law_row_changes (mCons (mVar 0) (mCons (m2 vIx (mVar 1) (mVar 4)) (mCons (mVar 2) mNil))) [.rf 0, .fr (.tuple rs), .fr (.tuple (iL ls)), .fr (.int s), .fr (.int (ai : Nat)), .un, .un] (hd ds (n + 2)) = .ok z (hd ds n') := by
    simp [xa, hxe, hz]
  have run := mid_run (i := 1) (j := 4) (env := [.rf 0, .fr (.tuple rs), .fr (.tuple (iL ls)), .fr (.int s), .fr (.int (ai : Nat)), .un, .un]) rfl rfl hX hfz (by omega)
  have b1 := cut_len rs none (some (ai : Nat))
  have b2 := cut_len rs (some ((ai : Nat) + 1)) none
  refine ⟨.fr (.tuple (cutL rs none (some (ai : Nat)) ++ [v] ++ cutL rs (some ((ai : Nat) + 1)) none)), _, n', ?_, rfl, (Od.mid (xs := cutL rs none (some (ai : Nat))) (ys := cutL rs (some ((ai : Nat) + 1)) none) (m := 11) (fun d hd => hpu2 d (cut_mem hd)) (fun d hd => hpu2 d (cut_mem hd)) hod (by omega)).mono (by decide) (by decide)⟩
  rw [mRet_at, run]
  rfl
end K01
end

section
set_option Elab.async false
set_option linter.all false
set_option maxRecDepth 100000
set_option maxHeartbeats 1000000
namespace K01
open PySem PySem.Spec PyProof.Rows L2 TL PySem.W

theorem e_side_ch (ds : List Int) (n : Nat) (ls : List Int) (hp : LabP ls) (s : PyData) (hs : SideP ls.length s) : ∃ z v n', m__law_side_changes [.rf 0, .fr s, .fr (.tuple (iL ls))] (hd ds n) = .ok z (hd ds n') ∧ z.frz = some v ∧ Od 4 31000 v := by
  obtain ⟨Rs, rfl, h1, h4, hR⟩ := hs
  have hpu : ∀ d ∈ Rs, Pu 2 284 d := fun d hd => (hR d hd).pu hp.2.1
  have hpu2 : ∀ d ∈ Rs, Pu 3 3400 d := fun d hd => (hpu d hd).mono (by decide) (by decide)
  obtain ⟨k, hk, k0, k1⟩ := e_take ds n 7 (by decide)
  have f1 : mSet 3 (mCall m__law_take (mCons (mVar 0) (mCons (mC (.int 7)) mNil))) [.rf 0, .fr (.tuple Rs), .fr (.tuple (iL ls)), .un, .un] (hd ds n) = .nx [.rf 0, .fr (.tuple Rs), .fr (.tuple (iL ls)), .fr (.int k), .un] (hd ds (n + 1)) := by simp [hk]
  unfold m__law_side_changes b__law_side_changes
  rw [mFn_at (np := 3) (show _ = 3 from rfl)]
  show ∃ z v n', (mSeq _ _ [.rf 0, .fr (.tuple Rs), .fr (.tuple (iL ls)), .un, .un] (hd ds n)).fin = _ ∧ _
  rw [seq_nx f1]
  by_cases c0 : k = 0
  · subst c0
    refine ⟨.ow (.list Rs), .list Rs, n + 1, ?_, rfl, (Od.lst hpu h4).mono (by decide) (by decide)⟩
    rw [seq_rt (v := .ow (.list Rs)) (S1 := hd ds (n + 1)) (by simp)]
    rfl
  rw [seq_nx (e := [.rf 0, .fr (.tuple Rs), .fr (.tuple (iL ls)), .fr (.int k), .un]) (S1 := hd ds (n + 1)) (by simp [c0])]
  by_cases c1 : k = 1
  · subst c1
    obtain ⟨v, n', hv, hod, _⟩ := e_odd ds (n + 1)
    refine ⟨.fr v, v, n', ?_, rfl, hod.mono (by decide) (by decide)⟩
    rw [seq_rt (v := .fr v) (S1 := hd ds n') (by simp [hv])]
    rfl
  rw [seq_nx (e := [.rf 0, .fr (.tuple Rs), .fr (.tuple (iL ls)), .fr (.int k), .un]) (S1 := hd ds (n + 1)) (by simp [c1])]
  by_cases c2 : k = 2
  · subst c2
    have b1 := cut_len Rs none (some 1)
    have v1 : vAdd (.fr (.tuple Rs)) (.fr (.tuple Rs)) = some (.fr (.tuple (Rs ++ Rs))) := vAdd_tup (by omega)
    have v2 : vAdd (.fr (.tuple (Rs ++ Rs))) (.fr (.tuple Rs)) = some (.fr (.tuple (Rs ++ Rs ++ Rs))) := vAdd_tup (by simp only [List.length_append]; omega)
    have v3 : vAdd (.fr (.tuple (Rs ++ Rs ++ Rs))) (.fr (.tuple Rs)) = some (.fr (.tuple (Rs ++ Rs ++ Rs ++ Rs))) := vAdd_tup (by simp only [List.length_append]; omega)
    have v4 : vAdd (.fr (.tuple (Rs ++ Rs ++ Rs ++ Rs))) (.fr (.tuple (cutL Rs none (some 1)))) = some (.fr (.tuple (Rs ++ Rs ++ Rs ++ Rs ++ cutL Rs none (some 1)))) := vAdd_tup (by simp only [List.length_append]; omega)
    have mem : ∀ d ∈ Rs ++ Rs ++ Rs ++ Rs ++ cutL Rs none (some 1), d ∈ Rs := fun d hd => by
      simp only [List.mem_append] at hd
      rcases hd with (((h | h) | h) | h) | h
      · exact h
      · exact h
      · exact h
      · exact h
      · exact cut_mem h
    refine ⟨.fr (.tuple (Rs ++ Rs ++ Rs ++ Rs ++ cutL Rs none (some 1))), _, n + 1, ?_, rfl, (Pu.tup (m := 20) (fun d hd => hpu d (mem d hd)) (by simp only [List.length_append]; omega)).od.mono (by decide) (by decide)⟩
    rw [seq_rt (v := .fr (.tuple (Rs ++ Rs ++ Rs ++ Rs ++ cutL Rs none (some 1)))) (S1 := hd ds (n + 1)) (by
      simp only [mIfS_at, m2B_at, mVar_at, List.getElem?_cons_succ, List.getElem?_cons_zero, bind_ok, mC_at, optB_at dat_fr dat_fr, dEq_int, decide_true, toS_ok, if_true, mRet_at, m2_at, mSl, mPart, mNone_at, dat_fr, vSl_tup, opt2_at, v1, v2, v3, v4, retV_fr])]
    rfl
  rw [seq_nx (e := [.rf 0, .fr (.tuple Rs), .fr (.tuple (iL ls)), .fr (.int k), .un]) (S1 := hd ds (n + 1)) (by simp [c2])]
  obtain ⟨a, ha, a0, a1⟩ := e_take ds (n + 1) Rs.length (by omega)
  obtain ⟨ai, rfl⟩ := Int.eq_ofNat_of_zero_le a0
  have hai : ai < Rs.length := by omega
  have ha' : m__law_take [.rf 0, .fr (.int (Rs.length : Nat))] (hd ds (n + 1)) = .ok (.fr (.int (ai : Nat))) (hd ds (n + 2)) := ha
  have xa : vIx (.fr (.tuple Rs)) (.fr (.int (ai : Nat))) = some (.fr Rs[ai]) := vIx_tup (atI_at hai)
  rw [seq_nx (e := [.rf 0, .fr (.tuple Rs), .fr (.tuple (iL ls)), .fr (.int k), .fr (.int (ai : Nat))]) (S1 := hd ds (n + 2)) (by simp [ha'])]
  obtain ⟨z, v, n', hz, hfz, hod⟩ := e_rows_ch ds (n + 2) ls hp _ (hR _ (List.getElem_mem hai))
  have hX : mCall m__law_rows_changes (mCons (mVar 0) (mCons (m2 vIx (mVar 1) (mVar 4)) (mCons (mVar 2) mNil))) [.rf 0, .fr (.tuple Rs), .fr (.tuple (iL ls)), .fr (.int k), .fr (.int (ai : Nat))] (hd ds (n + 2)) = .ok z (hd ds n') := by
    simp [xa, hz]
  have run := mid_run (i := 1) (j := 4) (env := [.rf 0, .fr (.tuple Rs), .fr (.tuple (iL ls)), .fr (.int k), .fr (.int (ai : Nat))]) rfl rfl hX hfz (by omega)
  have b1 := cut_len Rs none (some (ai : Nat))
  have b2 := cut_len Rs (some ((ai : Nat) + 1)) none
  refine ⟨.fr (.tuple (cutL Rs none (some (ai : Nat)) ++ [v] ++ cutL Rs (some ((ai : Nat) + 1)) none)), _, n', ?_, rfl, (Od.mid (xs := cutL Rs none (some (ai : Nat))) (ys := cutL Rs (some ((ai : Nat) + 1)) none) (m := 9) (fun d hd => hpu2 d (cut_mem hd)) (fun d hd => hpu2 d (cut_mem hd)) hod (by omega)).mono (by decide) (by decide)⟩
  rw [mRet_at, run]
  rfl

/-! ### a changed task -/
def Big (v : PyData) : Prop := Od 6 1000000 v ∧ ∀ a b c d e, v = .tuple [a, b, c, d, e] → a.plain = true ∧ a.depth ≤ 60
theorem Big.fine {v : PyData} (h : Big v) : Fine v := ⟨h.1.rep (by decide) (by decide), h.2⟩
theorem big_no {v : PyData} (h : Od 6 1000000 v) (h5 : five v = false) : Big v := ⟨h, fun a b c d e z => by subst z; cases h5⟩
theorem big_5 {a b c d e : PyData} (h : Od 6 1000000 (.tuple [a, b, c, d, e])) (hp : a.plain = true) (hd : a.depth ≤ 60) : Big (.tuple [a, b, c, d, e]) := ⟨h, fun a' b' c' d' e' z => by cases z; exact ⟨hp, hd⟩⟩
theorem pu_task : Pu 0 8 (.str "task") := ⟨by decide +kernel, rfl, rfl, Nat.le_refl _, Nat.le_refl _⟩
def hL : List PyData := [.none, .str "Task", .str "tasks", .str "", .tuple [.str "task"], .bool true]
def cL (c : Int) : List PyData := [.int 1, .int 5, .bool true, .none, .str "2", .int (c + 1), .int (c - 1), .int (-2), .tuple [.int 2]]
theorem cL_od {c : Int} (h1 : 2 ≤ c) (h2 : c ≤ 4) : ∀ d ∈ cL c, Od 1 20 d := by
  intro d hd
  simp only [cL, List.mem_cons, List.not_mem_nil, or_false] at hd
  rcases hd with rfl | rfl | rfl | rfl | rfl | rfl | rfl | rfl | rfl
  · exact .of (by decide +kernel)
  · exact .of (by decide +kernel)
  · exact .of (by decide +kernel)
  · exact .of (by decide +kernel)
  · exact .of (by decide +kernel)
  · exact ((Pu.int (by omega)).mono (by decide) (by decide)).od
  · exact ((Pu.int (by omega)).mono (by decide) (by decide)).od
  · exact .of (by decide +kernel)
  · exact .of (by decide +kernel)
theorem mem5 {P : PyData → Prop} {a b c d e : PyData} (h1 : P a) (h2 : P b) (h3 : P c) (h4 : P d) (h5 : P e) : ∀ x ∈ [a, b, c, d, e], P x := by
  intro x hx
  simp only [List.mem_cons, List.not_mem_nil, or_false] at hx
  rcases hx with rfl | rfl | rfl | rfl | rfl <;> assumption
theorem mem4 {P : PyData → Prop} {a b c d : PyData} (h1 : P a) (h2 : P b) (h3 : P c) (h4 : P d) : ∀ x ∈ [a, b, c, d], P x := by
  intro x hx
  simp only [List.mem_cons, List.not_mem_nil, or_false] at hx
  rcases hx with rfl | rfl | rfl | rfl <;> assumption
theorem mem6 {P : PyData → Prop} {a b c d e f : PyData} (h1 : P a) (h2 : P b) (h3 : P c) (h4 : P d) (h5 : P e) (h6 : P f) : ∀ x ∈ [a, b, c, d, e, f], P x := by
  intro x hx
  simp only [List.mem_cons, List.not_mem_nil, or_false] at hx
  rcases hx with rfl | rfl | rfl | rfl | rfl | rfl <;> assumption
theorem mem3 {P : PyData → Prop} {a b c : PyData} (h1 : P a) (h2 : P b) (h3 : P c) : ∀ x ∈ [a, b, c], P x := by
  intro x hx
  simp only [List.mem_cons, List.not_mem_nil, or_false] at hx
  rcases hx with rfl | rfl | rfl <;> assumption
theorem mem2 {P : PyData → Prop} {a b : PyData} (h1 : P a) (h2 : P b) : ∀ x ∈ [a, b], P x := by
  intro x hx
  simp only [List.mem_cons, List.not_mem_nil, or_false] at hx
  rcases hx with rfl | rfl <;> assumption
theorem mem1 {P : PyData → Prop} {a : PyData} (h1 : P a) : ∀ x ∈ [a], P x := by
  intro x hx
  rw [List.mem_singleton.mp hx]; exact h1
theorem mem0 {P : PyData → Prop} : ∀ x ∈ ([] : List PyData), P x := by simp
theorem e_changed (ds : List Int) (n : Nat) (t : PyData) (ht : TaskP t) : ∃ v n', (m__law_changed [.rf 0, .fr t] (hd ds n) = .ok (.fr v) (hd ds n') ∨ m__law_changed [.rf 0, .fr t] (hd ds n) = .ok (.ow v) (hd ds n')) ∧ Big v := by
  obtain ⟨ls, w, b, rfl, hp, hw, hb⟩ := ht
  have hc : 2 ≤ (ls.length : Int) ∧ (ls.length : Int) ≤ 4 := by have := hp.1; have := hp.2.1; omega
  generalize hcc : ((ls.length : Nat) : Int) = c at hc ⊢
  have pc : Pu 0 8 (.int c) := Pu.int (by omega)
  have pl : Pu 1 92 (.tuple (iL ls)) := (Pu.tup (m := 4) (k := 0) (c := 8) (fun d hd => by
    obtain ⟨x, hx, rfl⟩ := iL_mem hd
    have := hp.2.2 x hx
    exact Pu.int (by omega)) (by simpa using hp.2.1)).mono (by decide) (by decide)
  have pw := hw.pu hp.2.1
  have pb := hb.pu hp.2.1
  have T0 : Pu 3 1148 (.str "task") := pu_task.mono (by decide) (by decide)
  have T1 : Pu 3 1148 (.int c) := pc.mono (by decide) (by decide)
  have T2 : Pu 3 1148 (.tuple (iL ls)) := pl.mono (by decide) (by decide)
  have up : ∀ {d : PyData}, Pu 3 1148 d → Pu 4 31000 d := fun h => h.mono (by decide) (by decide)
  generalize hlv : PyData.tuple (iL ls) = lv at pl T2
  have x1 : vIx (.fr (.tuple [.str "task", .int c, lv, w, b])) (.fr (.int 1)) = some (.fr (.int c)) := rfl
  obtain ⟨k, hk, k0, k1⟩ := e_take ds n 12 (by decide)
  have f1 : mSet 2 (mCall m__law_take (mCons (mVar 0) (mCons (mC (.int 12)) mNil))) [.rf 0, .fr (.tuple [.str "task", .int c, lv, w, b]), .un, .un] (hd ds n) = .nx [.rf 0, .fr (.tuple [.str "task", .int c, lv, w, b]), .fr (.int k), .un] (hd ds (n + 1)) := by simp [hk]
  unfold m__law_changed b__law_changed
  rw [mFn_at (np := 2) (show _ = 2 from rfl)]
  show ∃ v n', ((mSeq _ _ [.rf 0, .fr (.tuple [.str "task", .int c, lv, w, b]), .un, .un] (hd ds n)).fin = _ ∨ (mSeq _ _ [.rf 0, .fr (.tuple [.str "task", .int c, lv, w, b]), .un, .un] (hd ds n)).fin = _) ∧ _
  rw [seq_nx f1]
  by_cases c0 : k = 0
  · subst c0
    obtain ⟨q, hq, q0, q1⟩ := e_take ds (n + 1) 5 (by decide)
    obtain ⟨x, hx, hxp⟩ := pick (L := [.list [.str "task", .int c, lv, w, b], .tuple [.str "task", .int c, lv, w], .tuple [.str "task", .int c, lv, w, b, .tuple []], .tuple [.tuple [.str "task", .int c, lv, w, b]], .tuple [.int c, lv, w, b]]) q0 (by simpa using q1)
    refine ⟨x, n + 2, .inl ?_, ?_⟩
    · rw [seq_rt (v := .fr x) (S1 := hd ds (n + 2)) (by
        have ec : cutL [.str "task", .int c, lv, w, b] none (some (-1)) = [.str "task", .int c, lv, w] := rfl
        have ec2 : cutL [.str "task", .int c, lv, w, b] (some 1) none = [.int c, lv, w, b] := rfl
        have ea : vAdd (.fr (.tuple [.str "task", .int c, lv, w, b])) (.fr (.tuple [.tuple []])) = some (.fr (.tuple [.str "task", .int c, lv, w, b, .tuple []])) := rfl
        simp [mSl, mPart, ec, ec2, vTup, sz, ea, vLst, hq, hxp])]
      rfl
    · simp only [List.mem_cons, List.not_mem_nil, or_false] at hx
      rcases hx with rfl | rfl | rfl | rfl | rfl
      · exact big_no ((Od.lst (m := 5) (mem5 T0 T1 T2 pw pb) (by simp)).mono (by decide) (by decide)) rfl
      · exact big_no ((Pu.tup (m := 4) (ds := [.str "task", .int c, lv, w]) (mem4 T0 T1 T2 pw) (by simp)).od.mono (by decide) (by decide)) rfl
      · exact big_no ((Pu.tup (m := 6) (ds := [.str "task", .int c, lv, w, b, .tuple []]) (k := 3) (c := 1148) (mem6 T0 T1 T2 pw pb ⟨rfl, rfl, rfl, by decide, by decide⟩) (by simp)).od.mono (by decide) (by decide)) rfl
      · exact big_no ((Pu.tup (m := 1) (ds := [.tuple [.str "task", .int c, lv, w, b]]) (k := 4) (c := 5754) (fun d hd => by
          rw [List.mem_singleton.mp hd]
          exact (Pu.tup (m := 5) (mem5 T0 T1 T2 pw pb) (by simp)).mono (by decide) (by decide)) (by simp)).od.mono (by decide) (by decide)) rfl
      · exact big_no ((Pu.tup (m := 4) (ds := [.int c, lv, w, b]) (mem4 T1 T2 pw pb) (by simp)).od.mono (by decide) (by decide)) rfl
  rw [seq_nx (e := [.rf 0, .fr (.tuple [.str "task", .int c, lv, w, b]), .fr (.int k), .un]) (S1 := hd ds (n + 1)) (by simp [c0])]
  by_cases c1 : k = 1
  · subst c1
    obtain ⟨q, hq, q0, q1⟩ := e_take ds (n + 1) 6 (by decide)
    obtain ⟨x, hx, hxp⟩ := pick (L := hL) q0 q1
    have hxo : x.plain = true ∧ x.depth ≤ 60 := by
      have h : hL.all (fun d => d.plain && decide (d.depth ≤ 60)) = true := by decide +kernel
      simpa using List.all_eq_true.mp h x hx
    have hxd : Od 3 1148 x := (Od.all (L := hL) (k := 1) (c := 20) (by decide +kernel) x hx).mono (by decide) (by decide)
    refine ⟨.tuple [x, .int c, lv, w, b], n + 2, .inl ?_, big_5 ((Od.mid (xs := []) (ys := [.int c, lv, w, b]) (m := 5) mem0 (mem4 T1 T2 pw pb) hxd (by simp)).mono (by decide) (by decide)) hxo.1 hxo.2⟩
    have eh : ∀ env S, mL vLst (mCons (mC .none) (mCons (mC (.str "Task")) (mCons (mC (.str "tasks")) (mCons (mC (.str "")) (mCons (mL vTup (mCons (mC (.str "task")) mNil)) (mCons (mC (.bool true)) mNil)))))) env S = .ok (.ow (.list hL)) S := fun env S => rfl
    have ec2 : cutL [.str "task", .int c, lv, w, b] (some 1) none = [.int c, lv, w, b] := rfl
    have ea : vAdd (.fr (.tuple [x])) (.fr (.tuple [.int c, lv, w, b])) = some (.fr (.tuple [x, .int c, lv, w, b])) := rfl
    have ev : vTup [.fr x] = some (.fr (.tuple [x])) := rfl
    have hQ : mCall m__law_take (mCons (mVar 0) (mCons (mC (.int 6)) mNil)) [.rf 0, .fr (.tuple [.str "task", .int c, lv, w, b]), .fr (.int 1), .un] (hd ds (n + 1)) = .ok (.fr (.int q)) (hd ds (n + 2)) := by simp [hq]
    have hP : mL vTup (mCons (m2 vIx (mL vLst (mCons (mC .none) (mCons (mC (.str "Task")) (mCons (mC (.str "tasks")) (mCons (mC (.str "")) (mCons (mL vTup (mCons (mC (.str "task")) mNil)) (mCons (mC (.bool true)) mNil))))))) (mCall m__law_take (mCons (mVar 0) (mCons (mC (.int 6)) mNil)))) mNil) [.rf 0, .fr (.tuple [.str "task", .int c, lv, w, b]), .fr (.int 1), .un] (hd ds (n + 1)) = .ok (.fr (.tuple [x])) (hd ds (n + 2)) := by
      rw [mL_at, mCons_at, m2_at, eh, bind_ok, hQ]
      simp [hxp, ev]
    rw [seq_rt (v := .fr (.tuple [x, .int c, lv, w, b])) (S1 := hd ds (n + 2)) (by
      rw [mIfS_at]
      simp only [m2B_at, mVar_at, List.getElem?_cons_succ, List.getElem?_cons_zero, bind_ok, mC_at, optB_at dat_fr dat_fr, dEq_int, decide_true, toS_ok, if_true, mRet_at, m2_at, hP]
      simp [mSl, mPart, ec2, ea])]
    rfl
  rw [seq_nx (e := [.rf 0, .fr (.tuple [.str "task", .int c, lv, w, b]), .fr (.int k), .un]) (S1 := hd ds (n + 1)) (by simp [c1])]
  by_cases c2 : k = 2
  · subst c2
    obtain ⟨q, hq, q0, q1⟩ := e_take ds (n + 1) 9 (by decide)
    obtain ⟨x, hx, hxp⟩ := pick (L := cL c) q0 q1
    have hxd : Od 3 1148 x := (cL_od hc.1 hc.2 x hx).mono (by decide) (by decide)
    refine ⟨.tuple [.str "task", x, lv, w, b], n + 2, .inl ?_, big_5 ((Od.mid (xs := [.str "task"]) (ys := [lv, w, b]) (m := 5) (mem1 T0) (mem3 T2 pw pb) hxd (by simp)).mono (by decide) (by decide)) rfl (by decide)⟩
    have eh : ∀ S, mL vLst (mCons (mC (.int 1)) (mCons (mC (.int 5)) (mCons (mC (.bool true)) (mCons (mC .none) (mCons (mC (.str "2")) (mCons (m2 vAdd (m2 vIx (mVar 1) (mC (.int 1))) (mC (.int 1))) (mCons (m2 vSub (m2 vIx (mVar 1) (mC (.int 1))) (mC (.int 1))) (mCons (m1 vNeg (mC (.int 2))) (mCons (mL vTup (mCons (mC (.int 2)) mNil)) mNil))))))))) [.rf 0, .fr (.tuple [.str "task", .int c, lv, w, b]), .fr (.int 2), .un] S = .ok (.ow (.list (cL c))) S := fun S => by
      simp [x1, vTup, sz, vLst, cL]
    have x0 : vIx (.fr (.tuple [.str "task", .int c, lv, w, b])) (.fr (.int 0)) = some (.fr (.str "task")) := rfl
    have ec2 : cutL [.str "task", .int c, lv, w, b] (some 2) none = [lv, w, b] := rfl
    have ea : vAdd (.fr (.tuple [.str "task", x])) (.fr (.tuple [lv, w, b])) = some (.fr (.tuple [.str "task", x, lv, w, b])) := rfl
    have ev : vTup [.fr (.str "task"), .fr x] = some (.fr (.tuple [.str "task", x])) := rfl
    rw [seq_rt (v := .fr (.tuple [.str "task", x, lv, w, b])) (S1 := hd ds (n + 2)) (by
      rw [mIfS_at]
      simp only [m2B_at, mVar_at, List.getElem?_cons_succ, List.getElem?_cons_zero, bind_ok, mC_at, optB_at dat_fr dat_fr, dEq_int, decide_true, toS_ok, if_true]
      refine (seq_nx (e := [.rf 0, .fr (.tuple [.str "task", .int c, lv, w, b]), .fr (.int 2), .fr x]) (S1 := hd ds (n + 2)) (by rw [mSet_at, m2_at, eh]; simp [hq, hxp])).trans ?_
      simp [x0, ev, mSl, mPart, ec2, ea])]
    rfl
  rw [seq_nx (e := [.rf 0, .fr (.tuple [.str "task", .int c, lv, w, b]), .fr (.int k), .un]) (S1 := hd ds (n + 1)) (by simp [c2])]
  by_cases c5 : k < 5
  · subst hlv
    obtain ⟨z, v, n', hz, hfz, hod⟩ := e_label_ch ds (n + 1) (.str "task") (.int c) w b ls hp
    have hX : mCall m__law_label_changes (mCons (mVar 0) (mCons (mVar 1) mNil)) [.rf 0, .fr (.tuple [.str "task", .int c, .tuple (iL ls), w, b]), .fr (.int k), .un] (hd ds (n + 1)) = .ok z (hd ds n') := by
      simp [hz]
    have hv : vTup [z] = some (.fr (.tuple [v])) := by
      cases z <;> first | (cases hfz; rfl) | cases hfz
    have hT : mL vTup (mCons (mCall m__law_label_changes (mCons (mVar 0) (mCons (mVar 1) mNil))) mNil) [.rf 0, .fr (.tuple [.str "task", .int c, .tuple (iL ls), w, b]), .fr (.int k), .un] (hd ds (n + 1)) = .ok (.fr (.tuple [v])) (hd ds n') := by
      rw [mL_at, mCons_at, hX, bind_ok, mNil_at, bind_ok, bind_ok, optL_at, hv]
    refine ⟨.tuple [.str "task", .int c, v, w, b], n', .inl ?_, big_5 ((Od.mid (xs := [.str "task", .int c]) (ys := [w, b]) (m := 5) (mem2 T0 T1) (mem2 pw pb) (hod.mono (by decide) (by decide)) (by simp)).mono (by decide) (by decide)) rfl (by decide)⟩
    have ec1 : cutL [.str "task", .int c, .tuple (iL ls), w, b] none (some 2) = [.str "task", .int c] := rfl
    have ec2 : cutL [.str "task", .int c, .tuple (iL ls), w, b] (some 3) none = [w, b] := rfl
    have ea : vAdd (.fr (.tuple [.str "task", .int c])) (.fr (.tuple [v])) = some (.fr (.tuple [.str "task", .int c, v])) := rfl
    have ea2 : vAdd (.fr (.tuple [.str "task", .int c, v])) (.fr (.tuple [w, b])) = some (.fr (.tuple [.str "task", .int c, v, w, b])) := rfl
    rw [seq_rt (v := .fr (.tuple [.str "task", .int c, v, w, b])) (S1 := hd ds n') (by
      rw [mIfS_at]
      simp only [m2B_at, mVar_at, List.getElem?_cons_succ, List.getElem?_cons_zero, bind_ok, mC_at, optB_at dat_fr dat_fr, dLt_int, c5, decide_true, toS_ok, if_true, mRet_at, m2_at, mSl, mPart, mNone_at, dat_fr, vSl_tup, ec1, hT, opt2_at, ea, ec2, ea2, retV_fr])]
    rfl
  rw [seq_nx (e := [.rf 0, .fr (.tuple [.str "task", .int c, lv, w, b]), .fr (.int k), .un]) (S1 := hd ds (n + 1)) (by simp [c5])]
  have x2 : vIx (.fr (.tuple [.str "task", .int c, lv, w, b])) (.fr (.int 2)) = some (.fr lv) := rfl
  have x3 : vIx (.fr (.tuple [.str "task", .int c, lv, w, b])) (.fr (.int 3)) = some (.fr w) := rfl
  have x4 : vIx (.fr (.tuple [.str "task", .int c, lv, w, b])) (.fr (.int 4)) = some (.fr b) := rfl
  by_cases c8 : k < 8
  · obtain ⟨z, v, n', hz, hfz, hod⟩ := e_side_ch ds (n + 1) ls hp w hw
    rw [hlv] at hz
    have hX : mCall m__law_side_changes (mCons (mVar 0) (mCons (m2 vIx (mVar 1) (mC (.int 3))) (mCons (m2 vIx (mVar 1) (mC (.int 2))) mNil))) [.rf 0, .fr (.tuple [.str "task", .int c, lv, w, b]), .fr (.int k), .un] (hd ds (n + 1)) = .ok z (hd ds n') := by
      simp [x2, x3, hz]
    have hv : vTup [z] = some (.fr (.tuple [v])) := by
      cases z <;> first | (cases hfz; rfl) | cases hfz
    have hT : mL vTup (mCons (mCall m__law_side_changes (mCons (mVar 0) (mCons (m2 vIx (mVar 1) (mC (.int 3))) (mCons (m2 vIx (mVar 1) (mC (.int 2))) mNil)))) mNil) [.rf 0, .fr (.tuple [.str "task", .int c, lv, w, b]), .fr (.int k), .un] (hd ds (n + 1)) = .ok (.fr (.tuple [v])) (hd ds n') := by
      rw [mL_at, mCons_at, hX, bind_ok, mNil_at, bind_ok, bind_ok, optL_at, hv]
    refine ⟨.tuple [.str "task", .int c, lv, v, b], n', .inl ?_, big_5 ((Od.mid (xs := [.str "task", .int c, lv]) (ys := [b]) (m := 5) (mem3 (up T0) (up T1) (up T2)) (mem1 (up pb)) hod (by simp)).mono (by decide) (by decide)) rfl (by decide)⟩
    have ec1 : cutL [.str "task", .int c, lv, w, b] none (some 3) = [.str "task", .int c, lv] := rfl
    have ec2 : cutL [.str "task", .int c, lv, w, b] (some 4) none = [b] := rfl
    have ea : vAdd (.fr (.tuple [.str "task", .int c, lv])) (.fr (.tuple [v])) = some (.fr (.tuple [.str "task", .int c, lv, v])) := rfl
    have ea2 : vAdd (.fr (.tuple [.str "task", .int c, lv, v])) (.fr (.tuple [b])) = some (.fr (.tuple [.str "task", .int c, lv, v, b])) := rfl
    rw [seq_rt (v := .fr (.tuple [.str "task", .int c, lv, v, b])) (S1 := hd ds n') (by
      rw [mIfS_at]
      simp only [m2B_at, mVar_at, List.getElem?_cons_succ, List.getElem?_cons_zero, bind_ok, mC_at, optB_at dat_fr dat_fr, dLt_int, c8, decide_true, toS_ok, if_true, mRet_at, m2_at, mSl, mPart, mNone_at, dat_fr, vSl_tup, ec1, hT, opt2_at, ea, ec2, ea2, retV_fr])]
    rfl
  rw [seq_nx (e := [.rf 0, .fr (.tuple [.str "task", .int c, lv, w, b]), .fr (.int k), .un]) (S1 := hd ds (n + 1)) (by simp [c8])]
  by_cases c11 : k < 11
  · obtain ⟨z, v, n', hz, hfz, hod⟩ := e_side_ch ds (n + 1) ls hp b hb
    rw [hlv] at hz
    have hX : mCall m__law_side_changes (mCons (mVar 0) (mCons (m2 vIx (mVar 1) (mC (.int 4))) (mCons (m2 vIx (mVar 1) (mC (.int 2))) mNil))) [.rf 0, .fr (.tuple [.str "task", .int c, lv, w, b]), .fr (.int k), .un] (hd ds (n + 1)) = .ok z (hd ds n') := by
      simp [x2, x4, hz]
    have hv : vTup [z] = some (.fr (.tuple [v])) := by
      cases z <;> first | (cases hfz; rfl) | cases hfz
    have hT : mL vTup (mCons (mCall m__law_side_changes (mCons (mVar 0) (mCons (m2 vIx (mVar 1) (mC (.int 4))) (mCons (m2 vIx (mVar 1) (mC (.int 2))) mNil)))) mNil) [.rf 0, .fr (.tuple [.str "task", .int c, lv, w, b]), .fr (.int k), .un] (hd ds (n + 1)) = .ok (.fr (.tuple [v])) (hd ds n') := by
      rw [mL_at, mCons_at, hX, bind_ok, mNil_at, bind_ok, bind_ok, optL_at, hv]
    refine ⟨.tuple [.str "task", .int c, lv, w, v], n', .inl ?_, big_5 ((Od.mid (xs := [.str "task", .int c, lv, w]) (ys := []) (m := 5) (mem4 (up T0) (up T1) (up T2) (up pw)) mem0 hod (by simp)).mono (by decide) (by decide)) rfl (by decide)⟩
    have ec1 : cutL [.str "task", .int c, lv, w, b] none (some 4) = [.str "task", .int c, lv, w] := rfl
    have ea : vAdd (.fr (.tuple [.str "task", .int c, lv, w])) (.fr (.tuple [v])) = some (.fr (.tuple [.str "task", .int c, lv, w, v])) := rfl
    rw [seq_rt (v := .fr (.tuple [.str "task", .int c, lv, w, v])) (S1 := hd ds n') (by
      rw [mIfS_at]
      simp only [m2B_at, mVar_at, List.getElem?_cons_succ, List.getElem?_cons_zero, bind_ok, mC_at, optB_at dat_fr dat_fr, dLt_int, c11, decide_true, toS_ok, if_true, mRet_at, m2_at, mSl, mPart, mNone_at, dat_fr, vSl_tup, ec1, hT, opt2_at, ea, retV_fr])]
    rfl
  rw [seq_nx (e := [.rf 0, .fr (.tuple [.str "task", .int c, lv, w, b]), .fr (.int k), .un]) (S1 := hd ds (n + 1)) (by simp [c11])]
  obtain ⟨v, n', hv, hod, h5⟩ := e_odd ds (n + 1)
  refine ⟨v, n', .inl ?_, big_no (hod.mono (by decide) (by decide)) h5⟩
  simp [hv]
theorem TaskP.big {t : PyData} (ht : TaskP t) : Big t := by
  obtain ⟨ls, w, b, rfl, hp, hw, hb⟩ := ht
  have hc := hp.2.1
  have pl : Pu 3 1148 (.tuple (iL ls)) := (Pu.tup (m := 4) (k := 0) (c := 8) (fun d hd => by
    obtain ⟨x, hx, rfl⟩ := iL_mem hd
    have := hp.2.2 x hx
    exact Pu.int (by omega)) (by simpa using hp.2.1)).mono (by decide) (by decide)
  exact big_5 ((Pu.tup (m := 5) (k := 3) (c := 1148) (mem5 (pu_task.mono (by decide) (by decide)) ((Pu.int (by omega)).mono (by decide) (by decide)) pl (hw.pu hp.2.1) (hb.pu hp.2.1)) (by simp)).od.mono (by decide) (by decide)) rfl (by decide)
end K01
end

section
set_option Elab.async false
set_option linter.all false
set_option maxRecDepth 100000
set_option maxHeartbeats 1000000
namespace K01
open PySem PySem.Spec PyProof.Rows L2 TL PySem.W

theorem rep_at {v : PyData} (h : okRepr v = true) : on1 vRepr [.fr v] = some (.fr (.str v.shown)) := by
  show (if okRepr v then some (Vl.fr (.str v.shown)) else none) = _
  rw [if_pos h]
theorem e_asked (v : PyData) (hf : Fine v) (S : Sto) : m__law_asked [.fr v] S = .ok (.fr (.bool true)) S := by
  have hr := e_right v hf S
  have hp := rep_at hf.rep
  rcases e_check v hf S with ⟨h1, h2⟩ | ⟨h1, h2⟩
  · rw [h1] at hr
    simp [m__law_asked, mFn, startE, slA, b__law_asked, mTryAs, hp, h2, hr, mAndV, b2, dIs, notNone]
  · rw [h1] at hr
    simp [m__law_asked, mFn, startE, slA, b__law_asked, mTryAs, hp, h2, hr, mAndV, b2, xBad, mNotV, mCallE, Rs.unset]
theorem e_all (ns : List Int) (hn : ns.length ≤ 63) : ∃ S, m__law_all [.sc ns] [] = .ok (.fr (.bool true)) S := by
  obtain ⟨ds, hd0⟩ := e_draws ns hn []
  obtain ⟨t, n1, ht, hT⟩ := e_task ds 0
  have ha : ∀ S, m__law_asked [.fr t] S = .ok (.fr (.bool true)) S := fun S => e_asked t hT.big.fine S
  have g1 : mSet 1 (mL vLst (mCons (mCall m__law_draws (mCons (mVar 0) (mCons (mC (.int 150)) mNil))) (mCons (mC (.int 0)) mNil))) [.sc ns, .un, .un, .un, .un] [] = .nx [.sc ns, .ow (.list [.list (iL ds), .int 0]), .un, .un, .un] [] := by
    simp [hd0, vLst, sz]
  have hc : ∀ m : MS, mCell 1 m [.sc ns, .ow (.list [.list (iL ds), .int 0]), .un, .un, .un] [] = m [.sc ns, .rf 0, .un, .un, .un] (hd ds 0) := fun m => rfl
  have g2 : mSet 2 (mCall m__law_task (mCons (mVar 1) mNil)) [.sc ns, .rf 0, .un, .un, .un] (hd ds 0) = .nx [.sc ns, .rf 0, .fr t, .un, .un] (hd ds n1) := by simp [ht]
  have frz2 : ∀ (m : MS) (x y : Sl) (S : Sto), mFrz 2 m [.sc ns, .rf 0, .fr t, x, y] S = m [.sc ns, .rf 0, .fr t, x, y] S := fun m x y S => rfl
  have g3 : mFrz 2 (mIfS (mNot (mTru (mCall m__law_asked (mCons (mVar 2) mNil)))) (mRet (mC (.bool false))) mPass) [.sc ns, .rf 0, .fr t, .un, .un] (hd ds n1) = .nx [.sc ns, .rf 0, .fr t, .un, .un] (hd ds n1) := by
    rw [frz2]; simp [ha]
  have loop : ∀ its : List PyData, ∃ e S', goFor (tgN 3) (mSeq (mFrz 2 (mSet 4 (mCall m__law_changed (mCons (mVar 1) (mCons (mVar 2) mNil))))) (mFrz 4 (mIfS (mOr (mNot (mTru (mCall m__law_asked (mCons (mVar 4) mNil)))) (mNot (mTru (mCall m__law_asked (mCons (mVar 4) mNil))))) (mRet (mC (.bool false))) mPass))) its [.sc ns, .rf 0, .fr t, .un, .un] (hd ds n1) = .nx e S' ∧ ∃ x y n', e = [.sc ns, .rf 0, .fr t, x, y] ∧ S' = hd ds n' := fun its => by
    refine goFor_inv (fun _ e S' => ∃ x y n', e = [.sc ns, .rf 0, .fr t, x, y] ∧ S' = hd ds n') ?_ its _ _ ⟨_, _, _, rfl, rfl⟩
    rintro d r env S ⟨x, y, n', rfl, rfl⟩
    obtain ⟨v, n2, hv, hB⟩ := e_changed ds n' t hT
    have hq : ∀ S, m__law_asked [.fr v] S = .ok (.fr (.bool true)) S := fun S => e_asked v hB.fine S
    rcases hv with hv | hv
    · refine ⟨[.sc ns, .rf 0, .fr t, .fr d, y], [.sc ns, .rf 0, .fr t, .fr d, .fr v], hd ds n2, rfl, .inl ?_, _, _, _, rfl, rfl⟩
      have f1 : mFrz 2 (mSet 4 (mCall m__law_changed (mCons (mVar 1) (mCons (mVar 2) mNil)))) [.sc ns, .rf 0, .fr t, .fr d, y] (hd ds n') = .nx [.sc ns, .rf 0, .fr t, .fr d, .fr v] (hd ds n2) := by rw [frz2]; simp [hv]
      rw [seq_nx f1]
      show mIfS _ _ _ [.sc ns, .rf 0, .fr t, .fr d, .fr v] _ = _
      simp [hq]
    · have f1 : mFrz 2 (mSet 4 (mCall m__law_changed (mCons (mVar 1) (mCons (mVar 2) mNil)))) [.sc ns, .rf 0, .fr t, .fr d, y] (hd ds n') = .nx [.sc ns, .rf 0, .fr t, .fr d, .ow v] (hd ds n2) := by rw [frz2]; simp [hv]
      refine ⟨[.sc ns, .rf 0, .fr t, .fr d, y], [.sc ns, .rf 0, .fr t, .fr d, .fr v], hd ds n2, rfl, .inl ?_, _, _, _, rfl, rfl⟩
      rw [seq_nx f1]
      show mIfS _ _ _ [.sc ns, .rf 0, .fr t, .fr d, .fr v] _ = _
      simp [hq]
  obtain ⟨e, S', hl, x, y, n', rfl, rfl⟩ := loop (rngL 0 5)
  have g4 : mFor (mR1 (mC (.int 5))) (tgN 3) (mSeq (mFrz 2 (mSet 4 (mCall m__law_changed (mCons (mVar 1) (mCons (mVar 2) mNil))))) (mFrz 4 (mIfS (mOr (mNot (mTru (mCall m__law_asked (mCons (mVar 4) mNil)))) (mNot (mTru (mCall m__law_asked (mCons (mVar 4) mNil))))) (mRet (mC (.bool false))) mPass))) [.sc ns, .rf 0, .fr t, .un, .un] (hd ds n1) = .nx [.sc ns, .rf 0, .fr t, x, y] (hd ds n') := by
    rw [mFor_run (mR1_run (mC_at) (by decide))]; exact hl
  have g5 : mFrz 2 (mRet (mCall m__law_asked (mCons (mVar 2) mNil))) [.sc ns, .rf 0, .fr t, x, y] (hd ds n') = .rt (.fr (.bool true)) (hd ds n') := by
    rw [frz2]; simp [ha]
  refine ⟨hd ds n', ?_⟩
  unfold m__law_all b__law_all
  rw [mFn_at (np := 1) (show _ = 1 from rfl)]
  show (mSeq _ _ [.sc ns, .un, .un, .un, .un] []).fin = _
  rw [seq_nx g1, hc, seq_nx g2, seq_nx g3, seq_nx g4, g5]
  rfl
theorem says (ns : List Int) (hn : ns.length ≤ 63) : Says m_law ns := by
  obtain ⟨S, h⟩ := e_all ns hn
  refine ⟨S, ?_⟩
  simp [m_law, mFn, startE, slA, b_law, mTry0, h]
end K01
end

section
set_option Elab.async false
set_option linter.all false
set_option maxRecDepth 100000
set_option maxHeartbeats 2000000
namespace TL
open PySem PySem.Spec PyProof.Rows L2 PySem.W
theorem ExF.base {q : Program} {w : World} {K : PySem.W.Frag} {mg : Str → Option Value} {h b : Heap} {x : Str} {C : Addr} (E : ExF ⟨q, w, K, mg, h⟩ x C) : ExF ⟨q, w, K, mg, b⟩ x C := ⟨E.f, E.g, E.k, E.r1, E.r2, E.self⟩
theorem mk_none {K : PySem.W.Frag} {h : Heap} {mg : Str → Option Value} {x : Str} (X : K.In h) (G : h.Ns mainGlobals mg) (a : PySem.W.nsIn K mainGlobals x = some none) : mg x = none := PySem.W.mg_none_of X G a
theorem mk_glob {K : PySem.W.Frag} {h : Heap} {mg : Str → Option Value} {x : Str} {i : Int} {t : Nat} (X : K.In h) (G : h.Ns mainGlobals mg) (a : PySem.W.nsIn K mainGlobals x = some (some (.int i t))) : ∃ t, mg x = some (.int i t) := ⟨t, PySem.W.mg_of X G a⟩
theorem mk_fn {q : Program} {w : World} {K : PySem.W.Frag} {h : Heap} {mg : Str → Option Value} {x : Str} {st : Stmt} {f : Addr} {oc : Value} {od : Option Addr} {kV doc pm : Value} {an : Option Addr} {cdv ct : Value} {osl : Array (Option Value)} (X : K.In h) (G : h.Ns mainGlobals mg)
    (a : PySem.W.nsIn K mainGlobals x = some (some (.ref f))) (l : K.lookup f = some ⟨oc, od, .func (PySem.W.fnOf x x (defArgs st) (defBody st) (defScope st) .none kV doc pm an cdv ct), osl⟩) (c : PySem.W.codeIn K cdv x = true) (k : PySem.W.keepIn K (.ref f) = true) : FnT ⟨q, w, K, mg, h⟩ x st :=
  ⟨f, oc, od, kV, doc, pm, an, cdv, ct, osl, PySem.W.mg_of X G a, k, l, c⟩
theorem exm_self {K : PySem.W.Frag} {S : Addr} (h1 : PySem.W.subIn K (.ref S) (.type "BaseException") = some true) (h2 : PySem.W.isClsIn K S = true) (h3 : PySem.W.typeIn K (.ref S) = some (.type "type")) (h4 : PySem.W.subIn K (.ref S) (.ref S) = some true) :
    PySem.W.exmOne K (.ref S) (.ref S) = some true := by
  have e1 : (PySem.W.subIn K (.ref S) (.type "BaseException") == some true) = true := by rw [h1] <;> rfl
  have e2 : ((PySem.W.clsIn K S).isSome && PySem.W.typeIn K (.ref S) == some (.type "type")) = true := by
    have h2' : (PySem.W.clsIn K S).isSome = true := h2
    rw [h2', h3] <;> rfl
  show (if (PySem.W.subIn K (.ref S) (.type "BaseException") == some true) = true then (if ((PySem.W.clsIn K S).isSome && PySem.W.typeIn K (.ref S) == some (.type "type")) = true then _ else none) else none) = some true
  rw [if_pos e1, if_pos e2]
  exact h4
theorem mk_ex {q : Program} {w : World} {K : PySem.W.Frag} {h : Heap} {mg : Str → Option Value} {x : Str} {C : Addr} (X : K.In h) (G : h.Ns mainGlobals mg) (a : PySem.W.nsIn K mainGlobals x = some (some (.ref C)))
    (c : PySem.W.excIn K C [.type "ValueError", .type "Exception", .type "BaseException", .type "object"] "ValueError.__new__" = true) (k : PySem.W.keepIn K (.ref C) = true) (s : PySem.W.subIn K (.ref C) (.type "BaseException") = some true) (t : PySem.W.typeIn K (.ref C) = some (.type "type")) (i : PySem.W.isClsIn K C = true) (o : PySem.W.subIn K (.ref C) (.ref C) = some true) : ExF ⟨q, w, K, mg, h⟩ x C :=
  ⟨⟨_, _, _, _, PySem.F.excBase_ValueError, c⟩, PySem.W.mg_of X G a, k, s, t, exm_self s i t o⟩
theorem mk_isC {K : PySem.W.Frag} {h : Heap} {mg : Str → Option Value} {x : Str} {C D : Addr} {b : Bool} (X : K.In h) (G : h.Ns mainGlobals mg) (a : PySem.W.nsIn K mainGlobals x = some (some (.ref C))) (k : PySem.W.kitOne K (.ref D) (.ref C) = some b) : ∃ cv, mg x = some (.ref cv) ∧ PySem.W.kitOne K (.ref D) (.ref cv) = some b := ⟨C, PySem.W.mg_of X G a, k⟩
end TL
namespace K01
open PySem PySem.Spec PyProof.Rows L2 TL PySem.W
theorem all_mk {q : Program} {w : World} {K : PySem.W.Frag} {h : Heap} {mg : Str → Option Value} {fa D : Addr} (hfa : mg "law" = some (.ref fa))
    (x_g : ExF ⟨q, w, K, mg, h⟩ "BadTask" D)
    (x_hx : ExcC K D)
    (i_LookError : ∃ cv, mg "LookError" = some (.ref cv) ∧ PySem.W.kitOne K (.ref D) (.ref cv) = some true)
    (i_ValueError : PySem.W.kitOne K (.ref D) (.type "ValueError") = some true)
    (i_BadAlgorithm : ∃ cv, mg "BadAlgorithm" = some (.ref cv) ∧ PySem.W.kitOne K (.ref D) (.ref cv) = some false)
    (i_BadNetwork : ∃ cv, mg "BadNetwork" = some (.ref cv) ∧ PySem.W.kitOne K (.ref D) (.ref cv) = some false)
    (i_BadReach : ∃ cv, mg "BadReach" = some (.ref cv) ∧ PySem.W.kitOne K (.ref D) (.ref cv) = some false)
    (i_BadEasing : ∃ cv, mg "BadEasing" = some (.ref cv) ∧ PySem.W.kitOne K (.ref D) (.ref cv) = some false)
    (i_NoRows : ∃ cv, mg "NoRows" = some (.ref cv) ∧ PySem.W.kitOne K (.ref D) (.ref cv) = some false)
    (i_TooMany : ∃ cv, mg "TooMany" = some (.ref cv) ∧ PySem.W.kitOne K (.ref D) (.ref cv) = some false)
    (i_BadText : ∃ cv, mg "BadText" = some (.ref cv) ∧ PySem.W.kitOne K (.ref D) (.ref cv) = some false)
    (n_ValueError : mg "ValueError" = none)
    (n_abs : mg "abs" = none)
    (n_bool : mg "bool" = none)
    (n_int : mg "int" = none)
    (n_isinstance : mg "isinstance" = none)
    (n_len : mg "len" = none)
    (n_list : mg "list" = none)
    (n_range : mg "range" = none)
    (n_repr : mg "repr" = none)
    (n_sorted : mg "sorted" = none)
    (n_str : mg "str" = none)
    (n_tuple : mg "tuple" = none)
    (n_zip : mg "zip" = none)
    (g_MOST_INPUTS : ∃ t, mg "MOST_INPUTS" = some (.int 4 t))
    (g_MOST_LABELS : ∃ t, mg "MOST_LABELS" = some (.int 60 t))
    (g_MOST_PRODUCT : ∃ t, mg "MOST_PRODUCT" = some (.int 4000 t))
    (e_BadTask : ∃ C, ExF ⟨q, w, K, mg, h⟩ "BadTask" C)
    (e_LookError : ∃ C, ExF ⟨q, w, K, mg, h⟩ "LookError" C)
    (f_is_number : FnT ⟨q, w, K, mg, h⟩ "is_number" (topS 14))
    (f_fits_bounds : FnT ⟨q, w, K, mg, h⟩ "fits_bounds" (topS 15))
    (f_fits_labels : FnT ⟨q, w, K, mg, h⟩ "fits_labels" (topS 16))
    (f_are_rows : FnT ⟨q, w, K, mg, h⟩ "are_rows" (topS 17))
    (f_check_task : FnT ⟨q, w, K, mg, h⟩ "check_task" (topS 18))
    (f__law_draws : FnT ⟨q, w, K, mg, h⟩ "_law_draws" (topS 20))
    (f__law_take : FnT ⟨q, w, K, mg, h⟩ "_law_take" (topS 21))
    (f__law_integer : FnT ⟨q, w, K, mg, h⟩ "_law_integer" (topS 22))
    (f__law_rows : FnT ⟨q, w, K, mg, h⟩ "_law_rows" (topS 23))
    (f__law_labels : FnT ⟨q, w, K, mg, h⟩ "_law_labels" (topS 24))
    (f__law_task : FnT ⟨q, w, K, mg, h⟩ "_law_task" (topS 25))
    (f__law_odd : FnT ⟨q, w, K, mg, h⟩ "_law_odd" (topS 26))
    (f__law_label_changes : FnT ⟨q, w, K, mg, h⟩ "_law_label_changes" (topS 27))
    (f__law_row_changes : FnT ⟨q, w, K, mg, h⟩ "_law_row_changes" (topS 28))
    (f__law_rows_changes : FnT ⟨q, w, K, mg, h⟩ "_law_rows_changes" (topS 29))
    (f__law_side_changes : FnT ⟨q, w, K, mg, h⟩ "_law_side_changes" (topS 30))
    (f__law_changed : FnT ⟨q, w, K, mg, h⟩ "_law_changed" (topS 31))
    (f__law_rows_right : FnT ⟨q, w, K, mg, h⟩ "_law_rows_right" (topS 32))
    (f__law_right : FnT ⟨q, w, K, mg, h⟩ "_law_right" (topS 33))
    (f__law_only_bad_task : FnT ⟨q, w, K, mg, h⟩ "_law_only_bad_task" (topS 34))
    (f__law_asked : FnT ⟨q, w, K, mg, h⟩ "_law_asked" (topS 35))
    (f__law_all : FnT ⟨q, w, K, mg, h⟩ "_law_all" (topS 36))
    (f_law : FnT ⟨q, w, K, mg, h⟩ "law" (topS 37)) :
    ∃ fd : FuncData, (∀ (s : Shared) (v : Value), BindsTo s fd ⟨[v], []⟩ [("script", v)]) ∧ ∀ base : Heap, K.In base → base.Ns mainGlobals mg → FnG ⟨q, w, K, mg, base⟩ true 7 fa fd ["script"] m_law := by
  have F : ∀ base : Heap, Nonempty (Pf ⟨q, w, K, mg, base⟩) := fun base => ⟨{ x_D := D, x_g := x_g.base, x_hx := x_hx, i_LookError := i_LookError, i_ValueError := i_ValueError, i_BadAlgorithm := i_BadAlgorithm, i_BadNetwork := i_BadNetwork, i_BadReach := i_BadReach, i_BadEasing := i_BadEasing, i_NoRows := i_NoRows, i_TooMany := i_TooMany, i_BadText := i_BadText, n_ValueError := n_ValueError, n_abs := n_abs, n_bool := n_bool, n_int := n_int, n_isinstance := n_isinstance, n_len := n_len, n_list := n_list, n_range := n_range, n_repr := n_repr, n_sorted := n_sorted, n_str := n_str, n_tuple := n_tuple, n_zip := n_zip, g_MOST_INPUTS := g_MOST_INPUTS, g_MOST_LABELS := g_MOST_LABELS, g_MOST_PRODUCT := g_MOST_PRODUCT, e_BadTask := e_BadTask.imp fun _ E => E.base, e_LookError := e_LookError.imp fun _ E => E.base, f_is_number := f_is_number, f_fits_bounds := f_fits_bounds, f_fits_labels := f_fits_labels, f_are_rows := f_are_rows, f_check_task := f_check_task, f__law_draws := f__law_draws, f__law_take := f__law_take, f__law_integer := f__law_integer, f__law_rows := f__law_rows, f__law_labels := f__law_labels, f__law_task := f__law_task, f__law_odd := f__law_odd, f__law_label_changes := f__law_label_changes, f__law_row_changes := f__law_row_changes, f__law_rows_changes := f__law_rows_changes, f__law_side_changes := f__law_side_changes, f__law_changed := f__law_changed, f__law_rows_right := f__law_rows_right, f__law_right := f__law_right, f__law_only_bad_task := f__law_only_bad_task, f__law_asked := f__law_asked, f__law_all := f__law_all, f_law := f_law }⟩
  obtain ⟨f, oc, od, kV, doc, pm, an, cdv, ct, osl, hm, hk, lk, hcd⟩ := f_law
  cases hfa.symm.trans hm
  refine ⟨PySem.W.fnOf "law" "law" (defArgs (topS 37)) (defBody (topS 37)) (defScope (topS 37)) .none kV doc pm an cdv ct, fun s v => .of_eq rfl, fun base _ _ => ?_⟩
  obtain ⟨F⟩ := F base
  refine fnG_of (P := ⟨q, w, K, mg, base⟩) (N := ["script"]) (Nv := ["script"]) (G := ["_law_all", "LookError"]) (ps := ["script"]) (ls := [0]) lk hcd ⟨rfl, rfl, rfl, by decide +kernel, rfl, by decide +kernel, by decide +kernel⟩ (by decide +kernel) fun X W B C hc T hsc => ?_
  replace hc := hc rfl
  exact (q_one (let ⟨_, E⟩ := F.e_LookError; q_try0 C hc T 1 E.g (fun X1 W1 C1 hc1 T1 hsc1 => (q_one (q_ret (s_call C1 0 (c__law_all F) (by decide) (fun _ => hc1) (s_acons (s_var C1 0) s_anil)))))))
end K01
end

section
set_option Elab.async false
set_option linter.all false
open PySem PySem.W PyProof.Rows
set_option maxRecDepth 100000 in
set_option maxHeartbeats 0 in
theorem PySem.Challenge.cw_looksfar_k01_check_task_holds : PySem.Challenge.rw_looksfar_k01_check_task.Holds := by
  w_on; o_law; k_head; (case hw => w_witness2)
  k_fill
  refine TL.walkG (l := PySem.Challenge.rw_looksfar_k01_check_task) (n := 63) (k := 7) (x := "script") (cb := true) (mf := K01.m_law) rfl (by decide) rfl ⟨by decide, by decide⟩ (fun w h Y => PySem.W.kIn_of Y) ?F K01.says
  case F =>
    intro w mg fa h KX G hmg
    refine' K01.all_mk hmg ?x_g ?x_hx ?i_LookError ?i_ValueError ?i_BadAlgorithm ?i_BadNetwork ?i_BadReach ?i_BadEasing ?i_NoRows ?i_TooMany ?i_BadText ?n_ValueError ?n_abs ?n_bool ?n_int ?n_isinstance ?n_len ?n_list ?n_range ?n_repr ?n_sorted ?n_str ?n_tuple ?n_zip ?g_MOST_INPUTS ?g_MOST_LABELS ?g_MOST_PRODUCT ?e_BadTask ?e_LookError ?f_is_number ?f_fits_bounds ?f_fits_labels ?f_are_rows ?f_check_task ?f__law_draws ?f__law_take ?f__law_integer ?f__law_rows ?f__law_labels ?f__law_task ?f__law_odd ?f__law_label_changes ?f__law_row_changes ?f__law_rows_changes ?f__law_side_changes ?f__law_changed ?f__law_rows_right ?f__law_right ?f__law_only_bad_task ?f__law_asked ?f__law_all ?f_law
    (case x_g => refine' TL.mk_ex KX G ?a ?c ?k ?s ?t ?i ?o; (case a => k_is); (case c => k_exc); (case k => k_is); (case s => k_is); (case t => k_is); (case i => k_is); (case o => first | rfl | k_is))
    (case x_hx => constructor <;> k_is)
    (case i_LookError => refine' TL.mk_isC KX G ?a ?k; (case a => k_is); (case k => kit_is))
    (case i_ValueError => kit_is)
    (case i_BadAlgorithm => refine' TL.mk_isC KX G ?a ?k; (case a => k_is); (case k => kit_is))
    (case i_BadNetwork => refine' TL.mk_isC KX G ?a ?k; (case a => k_is); (case k => kit_is))
    (case i_BadReach => refine' TL.mk_isC KX G ?a ?k; (case a => k_is); (case k => kit_is))
    (case i_BadEasing => refine' TL.mk_isC KX G ?a ?k; (case a => k_is); (case k => kit_is))
    (case i_NoRows => refine' TL.mk_isC KX G ?a ?k; (case a => k_is); (case k => kit_is))
    (case i_TooMany => refine' TL.mk_isC KX G ?a ?k; (case a => k_is); (case k => kit_is))
    (case i_BadText => refine' TL.mk_isC KX G ?a ?k; (case a => k_is); (case k => kit_is))
    (case n_ValueError => refine TL.mk_none KX G ?_; k_is)
    (case n_abs => refine TL.mk_none KX G ?_; k_is)
    (case n_bool => refine TL.mk_none KX G ?_; k_is)
    (case n_int => refine TL.mk_none KX G ?_; k_is)
    (case n_isinstance => refine TL.mk_none KX G ?_; k_is)
    (case n_len => refine TL.mk_none KX G ?_; k_is)
    (case n_list => refine TL.mk_none KX G ?_; k_is)
    (case n_range => refine TL.mk_none KX G ?_; k_is)
    (case n_repr => refine TL.mk_none KX G ?_; k_is)
    (case n_sorted => refine TL.mk_none KX G ?_; k_is)
    (case n_str => refine TL.mk_none KX G ?_; k_is)
    (case n_tuple => refine TL.mk_none KX G ?_; k_is)
    (case n_zip => refine TL.mk_none KX G ?_; k_is)
    (case g_MOST_INPUTS => refine' TL.mk_glob KX G ?a; (case a => k_is))
    (case g_MOST_LABELS => refine' TL.mk_glob KX G ?a; (case a => k_is))
    (case g_MOST_PRODUCT => refine' TL.mk_glob KX G ?a; (case a => k_is))
    (case e_BadTask => refine' ⟨_, TL.mk_ex KX G ?a ?c ?k ?s ?t ?i ?o⟩; (case a => k_is); (case c => k_exc); (case k => k_is); (case s => k_is); (case t => k_is); (case i => k_is); (case o => first | rfl | k_is))
    (case e_LookError => refine' ⟨_, TL.mk_ex KX G ?a ?c ?k ?s ?t ?i ?o⟩; (case a => k_is); (case c => k_exc); (case k => k_is); (case s => k_is); (case t => k_is); (case i => k_is); (case o => first | rfl | k_is))
    (case f_is_number => refine' TL.mk_fn KX G ?a ?l ?c ?k; (case a => k_is); (case l => k_is); (case c => k_is); (case k => k_is))
    (case f_fits_bounds => refine' TL.mk_fn KX G ?a ?l ?c ?k; (case a => k_is); (case l => k_is); (case c => k_is); (case k => k_is))
    (case f_fits_labels => refine' TL.mk_fn KX G ?a ?l ?c ?k; (case a => k_is); (case l => k_is); (case c => k_is); (case k => k_is))
    (case f_are_rows => refine' TL.mk_fn KX G ?a ?l ?c ?k; (case a => k_is); (case l => k_is); (case c => k_is); (case k => k_is))
    (case f_check_task => refine' TL.mk_fn KX G ?a ?l ?c ?k; (case a => k_is); (case l => k_is); (case c => k_is); (case k => k_is))
    (case f__law_draws => refine' TL.mk_fn KX G ?a ?l ?c ?k; (case a => k_is); (case l => k_is); (case c => k_is); (case k => k_is))
    (case f__law_take => refine' TL.mk_fn KX G ?a ?l ?c ?k; (case a => k_is); (case l => k_is); (case c => k_is); (case k => k_is))
    (case f__law_integer => refine' TL.mk_fn KX G ?a ?l ?c ?k; (case a => k_is); (case l => k_is); (case c => k_is); (case k => k_is))
    (case f__law_rows => refine' TL.mk_fn KX G ?a ?l ?c ?k; (case a => k_is); (case l => k_is); (case c => k_is); (case k => k_is))
    (case f__law_labels => refine' TL.mk_fn KX G ?a ?l ?c ?k; (case a => k_is); (case l => k_is); (case c => k_is); (case k => k_is))
    (case f__law_task => refine' TL.mk_fn KX G ?a ?l ?c ?k; (case a => k_is); (case l => k_is); (case c => k_is); (case k => k_is))
    (case f__law_odd => refine' TL.mk_fn KX G ?a ?l ?c ?k; (case a => k_is); (case l => k_is); (case c => k_is); (case k => k_is))
    (case f__law_label_changes => refine' TL.mk_fn KX G ?a ?l ?c ?k; (case a => k_is); (case l => k_is); (case c => k_is); (case k => k_is))
    (case f__law_row_changes => refine' TL.mk_fn KX G ?a ?l ?c ?k; (case a => k_is); (case l => k_is); (case c => k_is); (case k => k_is))
    (case f__law_rows_changes => refine' TL.mk_fn KX G ?a ?l ?c ?k; (case a => k_is); (case l => k_is); (case c => k_is); (case k => k_is))
    (case f__law_side_changes => refine' TL.mk_fn KX G ?a ?l ?c ?k; (case a => k_is); (case l => k_is); (case c => k_is); (case k => k_is))
    (case f__law_changed => refine' TL.mk_fn KX G ?a ?l ?c ?k; (case a => k_is); (case l => k_is); (case c => k_is); (case k => k_is))
    (case f__law_rows_right => refine' TL.mk_fn KX G ?a ?l ?c ?k; (case a => k_is); (case l => k_is); (case c => k_is); (case k => k_is))
    (case f__law_right => refine' TL.mk_fn KX G ?a ?l ?c ?k; (case a => k_is); (case l => k_is); (case c => k_is); (case k => k_is))
    (case f__law_only_bad_task => refine' TL.mk_fn KX G ?a ?l ?c ?k; (case a => k_is); (case l => k_is); (case c => k_is); (case k => k_is))
    (case f__law_asked => refine' TL.mk_fn KX G ?a ?l ?c ?k; (case a => k_is); (case l => k_is); (case c => k_is); (case k => k_is))
    (case f__law_all => refine' TL.mk_fn KX G ?a ?l ?c ?k; (case a => k_is); (case l => k_is); (case c => k_is); (case k => k_is))
    (case f_law => refine' TL.mk_fn KX G ?a ?l ?c ?k; (case a => k_is); (case l => k_is); (case c => k_is); (case k => k_is))
end
